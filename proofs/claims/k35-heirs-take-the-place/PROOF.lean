import PyProof.Rows.All
import Wide.All
import OpenK.AllK
import Wide.FinOn
import HandS.ForMost
import HandS.IsInst
import HandS.Wide
import HandS.Flow
import HandS.NoneIn
import HandS.Deep
import HandS.SetKeys
import HandS.DictComp
import HandS.TupAny
import KE.SortData
import KE.DatumOrd
import HandS.HeadHook1
import HandS.HeadHook2
import HandS.Lambda
import KE.KNest
import HandS.Defaults
import HandS.Head0
import HandS.Head1
import HandS.Head2
import HandS.HeadEnd
import HandS.EndTab
import HandS.ExcInit
import HandS.ExcCtx
import HandS.HotCalls
import HandS.ExcField
import KE.KExcIs
import KE.DataFind
import HandS.HeadHook3
import PySem.Challenge.RW_scalebook_k35_whole_heirs_take_the_place
import HandS.Zip
import KE.KEqDict
import HandS.Style
import PyProof.Rows.StrMeet
import HandS.Exc
import HandS.ExcOwn
import HandS.WordsExc
import HandS.CallSlots
import HandS.ExcInitHot
import HandS.ExcIs
import KE.KSortKey
import KE.KSortTupG
import HandS.SortKw
import KE.KUnpackStar
import HandS.SetBool
import HandS.SetFor
import KE.KDictZip
import PyProof.DictUpdate
import HandS.MakeKw
import KE.GoesMore
import KE.GoesZip
import HandS.OwnEq
import HandS.More
import KE.KDictPairs
import HandS.Conv
import HandS.Hot
import HandS.Comp
set_option Elab.async false
set_option linter.all false
set_option maxRecDepth 100000
set_option maxHeartbeats 4000000
namespace Sb
open PySem
inductive Ty where
  | none | bool | int | str | tuple | list | dict | set
  deriving DecidableEq
def Ty.nm : Ty → String
  | .none => "NoneType" | .bool => "bool" | .int => "int" | .str => "str" | .tuple => "tuple" | .list => "list" | .dict => "dict" | .set => "set"
inductive PV where
  | non | bl (b : Bool) | int (i : Int) | str (x : Str) | tup (l : List PV) | ref (n : Nat) | cl (l : List PV) | ty (t : Ty)
  /-- a class of the program; an exception that is handled -/
  | cls (x : Str) | xc (x : Str) (ns : List Str) (vs : List PV)
  /-- a set of ints and texts (never changed) -/
  | ste (l : List L2.Key)
inductive PO where
  | lst (l : List PV)
  /-- a dict by ints and texts -/
  | dct (l : List (L2.Key × PV))
  /-- an instance of an own class -/
  | obj (c : Str) (fs : List (Str × PV))
abbrev PH := List PO
structure Exn where
  cls : Str
  ns : List Str
  vs : List PV
inductive R (α : Type) where
  | ok (a : α) (h : PH)
  | ex (x : Exn) (h : PH)
  | no
def R.bind {α β : Type} (m : R α) (f : α → PH → R β) : R β :=
  match m with
  | .ok a h => f a h
  | .ex x h => .ex x h
  | .no => .no
@[simp] theorem R.bind_ok {α β : Type} (a : α) (h : PH) (f : α → PH → R β) : (R.ok a h).bind f = f a h := rfl
@[simp] theorem R.bind_ex {α β : Type} (x : Exn) (h : PH) (f : α → PH → R β) : (R.ex x h : R α).bind f = .ex x h := rfl
@[simp] theorem R.bind_no {α β : Type} (f : α → PH → R β) : (R.no : R α).bind f = .no := rfl
/-- a value that may not be there -/
def ofO {α : Type} (o : Option α) (h : PH) : R α := match o with | some a => .ok a h | none => .no
@[simp] theorem ofO_some {α : Type} (a : α) (h : PH) : ofO (some a) h = .ok a h := rfl
@[simp] theorem ofO_none {α : Type} (h : PH) : ofO (none : Option α) h = .no := rfl
/-- no exception is let out -/
def R.calm {α : Type} (m : R α) : R α := match m with | .ok a h => .ok a h | _ => .no
@[simp] theorem R.calm_ok {α : Type} (a : α) (h : PH) : (R.ok a h).calm = .ok a h := rfl
/-- the items of a list (in the heap or constant) or tuple -/
def zbw (h : PH) : PV → Option (List PV)
  | .tup l => some l
  | .cl l => some l
  | .ref n => match h[n]? with | some (.lst l) => some l | _ => none
  | _ => none
def listOf (h : PH) : PV → Option (List PV)
  | .cl l => some l
  | .ref n => match h[n]? with | some (.lst l) => some l | _ => none
  | _ => none
def tyOf (h : PH) : PV → Option Ty
  | .non => some .none | .bl _ => some .bool | .int _ => some .int | .str _ => some .str | .tup _ => some .tuple | .cl _ => some .list
  | .ref n => match h[n]? with | some (.lst _) => some .list | some (.dct _) => some .dict | _ => none
  | .ty _ => none
  | .cls _ => none
  | .xc _ _ _ => none
  | .ste _ => none
def za3 (n : Nat) : Bool := decide (n ≤ 1000000)
def truthy (h : PH) : PV → Option Bool
  | .non => some false
  | .bl b => some b
  | .int i => some (i != 0)
  | .str x => if za3 x.length then some (decide (0 < x.length)) else none
  | .tup l => some (!l.isEmpty)
  | .cl l => some (!l.isEmpty)
  | .ref n => match h[n]? with | some (.lst l) => some (!l.isEmpty) | some (.dct l) => some (!l.isEmpty) | _ => none
  | .ty _ => none
  | .cls _ => none
  | .xc _ _ _ => none
  | .ste _ => none
def alloc (l : List PV) (h : PH) : R PV := if za3 l.length then .ok (.ref h.length) (h ++ [.lst l]) else .no
def tupO (l : List PV) (h : PH) : R PV := if za3 l.length then .ok (.tup l) h else .no
def mapO {α β : Type} (f : α → Option β) : List α → Option (List β)
  | [] => some []
  | a :: r => match f a, mapO f r with | some b, some s => some (b :: s) | _, _ => none
def zch (x : Str) : Bool := x.cps.all (· < 0x110000)
def pd (h : PH) : Nat → PV → Option PyData
  | _, .non => some .none
  | _, .bl b => some (.bool b)
  | _, .int i => some (.int i)
  | _, .str x => if zch x then some (.str x) else none
  | n + 1, .tup l => (mapO (pd h n) l).map .tuple
  | n + 1, .cl l => (mapO (pd h n) l).map .list
  | n + 1, .ref m => match h[m]? with | some (.lst l) => (mapO (pd h n) l).map .list | _ => none
  | _, _ => none
def zce : PV → Option L2.Key
  | .int i => some (.inl i)
  | .str x => some (.inr x)
  | _ => none
def keyP : L2.Key → PV
  | .inl i => .int i
  | .inr x => .str x
def valP (l : List (L2.Key × PV)) (k : L2.Key) : Option PV := (l.find? fun kv => decide (kv.1 = k)).map (·.2)
/-- == of two values that are data -/
def eqvP (h : PH) (a b : PV) : Bool := match pd h 8 a, pd h 8 b with | some d, some e => PyData.eqv d e | _, _ => false
def dHit (h : PH) (k : List (L2.Key × PV)) (kv : L2.Key × PV) : Bool := match valP k kv.1 with | some v => eqvP h kv.2 v | none => false
/-- == of two dicts whose values are data -/
def dEq (h : PH) (l k : List (L2.Key × PV)) : Option Bool :=
  if (l.all fun kv => (pd h 8 kv.2).isSome) && (k.all fun kv => (pd h 8 kv.2).isSome) then
    some ((l.length == k.length) && l.all (dHit h k))
  else none
def dEqP (h : PH) : PV → PV → Option Bool
  | .ref m, .ref n => (match h[m]?, h[n]? with | some (.dct l), some (.dct k) => dEq h l k | _, _ => none)
  | _, _ => none
def eqP (h : PH) (a b : PV) : Option Bool := match pd h 8 a, pd h 8 b with | some d, some e => some (PyData.eqv d e) | _, _ => dEqP h a b
def putP (l : List (L2.Key × PV)) (k : L2.Key) (v : PV) : List (L2.Key × PV) :=
  if (l.any fun kv => decide (kv.1 = k)) = true then l.map (fun kv => if kv.1 = k then (kv.1, v) else kv) else l ++ [(k, v)]
def zbv (l more : List (L2.Key × PV)) : List (L2.Key × PV) := more.foldl (fun acc kv => putP acc kv.1 kv.2) l
/-- k1, v1, k2, v2, .. -/
def pairUp : List PV → Option (List (L2.Key × PV))
  | [] => some []
  | [_] => none
  | k :: v :: r => (match zce k, pairUp r with | some k, some l => some ((k, v) :: l) | _, _ => none)
/-- a new dict -/
def allocD (l : List (L2.Key × PV)) (h : PH) : R PV := .ok (.ref h.length) (h ++ [.dct l])
/-- x in y -/
def inSeqP (h : PH) (x : PV) (l : List PV) : Option Bool := match pd h 8 x, mapO (pd h 8) l with | some d, some ds => some (ds.any fun z => PyData.eqv z d) | _, _ => none
/-- a sign in a text -/
def signIn (x y : Str) : Option Bool := match x.cps.toList with | [c] => some (decide (c ∈ y.cps.toList)) | _ => none
def inP (h : PH) (x : PV) : PV → Option Bool
  | .str y => match x with | .str z => signIn z y | _ => none
  | .tup l => inSeqP h x l
  | .cl l => inSeqP h x l
  | .ref n => match h[n]? with
    | some (.lst l) => inSeqP h x l
    | some (.dct l) => (zce x).map fun k => (valP l k).isSome
    | _ => none
  | .ste l => (zce x).map fun k => l.any fun j => decide (j = k)
  | _ => none
def zc6 (i j : Int) : Bool := decide (i.natAbs.log2 + j.natAbs.log2 < 1000000)
def divOk (j : Int) : Bool := decide (j ≠ 0) && decide (j.natAbs.log2 < 9000)
def powOk (i j : Int) : Bool := decide (0 ≤ j) && decide (j ≤ 1000000) && decide (i.natAbs < 2 ^ 64)
def binop (op : Operator) (a b : PV) (h : PH) : R PV :=
  match op, a, b with
  | .Add, .int i, .int j => .ok (.int (i + j)) h
  | .Sub, .int i, .int j => .ok (.int (i - j)) h
  | .Mult, .int i, .int j => if zc6 i j then .ok (.int (i * j)) h else .no
  | .FloorDiv, .int i, .int j => if divOk j then .ok (.int (i.fdiv j)) h else .no
  | .Mod, .int i, .int j => if j = 0 then .no else .ok (.int (i.fmod j)) h
  | .Pow, .int i, .int j => if powOk i j then .ok (.int (i ^ j.toNat)) h else .no
  | .Add, .str x, .str y => if za3 (x.length + y.length) then .ok (.str (x ++ y)) h else .no
  | .Add, .ref m, .ref n => match h[m]?, h[n]? with
    | some (.lst l), some (.lst k) => if za3 (l.length + k.length) then alloc (l ++ k) h else .no
    | _, _ => .no
  | .Mult, .ref m, .int k => match h[m]? with
    | some (.lst l) => if 0 ≤ k ∧ k ≤ 1000 ∧ l.length ≤ 1000 then .ok (.ref h.length) (h ++ [.lst (List.replicate k.toNat l).flatten]) else .no
    | _ => .no
  | .Add, .tup l, .tup k => if za3 (l.length + k.length) then .ok (.tup (l ++ k)) h else .no
  | _, _, _ => .no
def ltStr (x y : Str) : Bool := decide (x.cps.toList < y.cps.toList)
def isNonP : PV → Bool
  | .non => true
  | _ => false
def zbd (op : CmpOp) (a b : PV) (h : PH) : R PV :=
  match op, a, b with
  | .Lt, .int i, .int j => .ok (.bl (decide (i < j))) h
  | .LtE, .int i, .int j => .ok (.bl (decide (i ≤ j))) h
  | .Gt, .int i, .int j => .ok (.bl (decide (j < i))) h
  | .GtE, .int i, .int j => .ok (.bl (decide (j ≤ i))) h
  | .Lt, .str x, .str y => .ok (.bl (ltStr x y)) h
  | .Is, x, .non => .ok (.bl (isNonP x)) h
  | .IsNot, x, .non => .ok (.bl (!isNonP x)) h
  | .Is, .bl x, .bl y => .ok (.bl (decide (x = y))) h
  | .IsNot, .bl x, .bl y => .ok (.bl (!decide (x = y))) h
  | .Eq, .str x, .str y => .ok (.bl (decide (x = y))) h
  | .NotEq, .str x, .str y => .ok (.bl (!decide (x = y))) h
  | .Eq, x, y => ofO ((eqP h x y).map .bl) h
  | .NotEq, x, y => ofO ((eqP h x y).map fun b => .bl (!b)) h
  | .In, x, y => ofO ((inP h x y).map .bl) h
  | .NotIn, x, y => ofO ((inP h x y).map fun b => .bl (!b)) h
  | .Gt, .str x, .str y => .ok (.bl (ltStr y x)) h
  | _, _, _ => .no
def zcc (a i : PV) (h : PH) : R PV :=
  match a, i with
  | .str x, .int i => if za3 x.length then (match L2.atI x.cps.toList i with | some c => .ok (.str ⟨#[c]⟩) h | none => .no) else .no
  | .ref n, i => (match h[n]? with
    | some (.lst l) => (match i with | .int j => ofO (L2.atI l j) h | _ => .no)
    | some (.dct l) => (match zce i with | some k => ofO (valP l k) h | none => .no)
    | _ => .no)
  | .tup l, .int i => ofO (L2.atI l i) h
  | .cl l, .int i => ofO (L2.atI l i) h
  | _, _ => .no
/-- a[lo:hi] -/
def cutP (l : List PV) (lo hi : Option Int) : List PV := (l.drop (HT.sIx l.length 0 lo)).take (HT.sIx l.length l.length hi - HT.sIx l.length 0 lo)
def slcop (a : PV) (lo hi : Option Int) (h : PH) : R PV :=
  match a with
  | .tup l => .ok (.tup (cutP l lo hi)) h
  | a => match listOf h a with
    | some l => .ok (.ref h.length) (h ++ [.lst (cutP l lo hi)])
    | none => .no
def stpop (a st : PV) (h : PH) : R PV :=
  match a, st with
  | .tup [u, w], .int 1 => .ok (.tup [u, w]) h
  | .tup [u, w], .int (-1) => .ok (.tup [w, u]) h
  | _, _ => .no
def revop (a : PV) (h : PH) : R PV := match listOf h a with
  | some l => alloc l.reverse h
  | none => .no
def setop (a i v : PV) (h : PH) : Option PH :=
  match a with
  | .ref n => match h[n]? with
    | some (.lst l) => (match i with | .int i => (match L2.ixN l.length i with | some j => some (h.set n (.lst (l.set j v))) | none => none) | _ => none)
    | some (.dct l) => (match zce i with | some k => if za3 (l.length + 1) then some (h.set n (.dct (putP l k v))) else none | none => none)
    | _ => none
  | _ => none
inductive BI where
  | isx | abs | len | all | any | isinst | tupleOf | listOf | int1 | min2 | max2 | str1 | sorted1 | dictOf | minN | sortSet | dictZip | lenSet | sum | isC | rangeL
  deriving DecidableEq
inductive MT where
  | count | append | popAt | join | get1 | get2 | setd | clear | insert | index | pop0 | update | popK | reverse | extend
  deriving DecidableEq
def MT.ty : MT → Ty
  | .count => .list | .append => .list | .popAt => .list | .join => .str | .get1 => .dict | .get2 => .dict | .setd => .dict | .clear => .list | .insert => .list | .index => .list | .pop0 => .list | .update => .dict | .popK => .dict | .reverse => .list | .extend => .list
def isTy : Ty → Ty → Bool
  | .bool, .int => true
  | a, b => decide (a = b)
def boolsOf : List PV → Option (List Bool)
  | [] => some []
  | .bl b :: r => (boolsOf r).map (b :: ·)
  | _ :: _ => none
def tysOf : List PV → Option (List Ty)
  | [] => some []
  | .ty b :: r => (tysOf r).map (b :: ·)
  | _ :: _ => none
def biAbs (as : List PV) (h : PH) : R PV := match as with
  | [.int i] => .ok (.int (if i < 0 then -i else i)) h
  | _ => .no
def biLen (as : List PV) (h : PH) : R PV := match as with
  | [.str x] => if za3 x.length then .ok (.int x.length) h else .no
  | [.ref n] => (match h[n]? with | some (.lst l) => .ok (.int l.length) h | some (.dct l) => .ok (.int l.length) h | _ => .no)
  | [.tup l] => .ok (.int l.length) h
  | [.cl l] => .ok (.int l.length) h
  | _ => .no
def zcy : List PV → Option (List Str)
  | [] => some []
  | .str b :: r => (zcy r).map (b :: ·)
  | _ :: _ => none
def intsOf : List PV → Option (List Int)
  | [] => some []
  | .int b :: r => (intsOf r).map (b :: ·)
  | _ :: _ => none
def leStr (x y : Str) : Bool := !ltStr y x
def sortS (l : List Str) : List Str := l.mergeSort leStr
def sortI (l : List Int) : List Int := l.mergeSort fun a b => decide (a ≤ b)
/-- by the order of data -/
def isTupD : PyData → Bool
  | .tuple (_ :: _) => true
  | _ => false
def sortableD (ds : List PyData) : Bool := (ds.all fun d => ds.all fun e => PySem.W.alike d e) && (ds.all isTupD && decide (ds.length ≤ 1000))
def sortD (ds : List PyData) (l : List PV) : List PV := ((l.zip ds).mergeSort (PySem.W.dataLe false Prod.snd)).map Prod.fst
/-- sorted(x): texts, ints, a dict's keys (texts); tuples of data -/
def biSorted (as : List PV) (h : PH) : R PV := match as with
  | [.ref n] => (match h[n]? with
    | some (.lst l) => (match zcy l, intsOf l with
      | some xs, _ => if xs.length < 64 then .ok (.ref h.length) (h ++ [.lst ((sortS xs).map PV.str)]) else .no
      | _, some xs => if xs.length < 64 then .ok (.ref h.length) (h ++ [.lst ((sortI xs).map PV.int)]) else .no
      | _, _ => (match mapO (pd h 8) l with
        | some ds => if sortableD ds then .ok (.ref h.length) (h ++ [.lst (sortD ds l)]) else .no
        | none => .no))
    | some (.dct l) => (match zcy (l.map fun kv => keyP kv.1) with
      | some xs => if xs.length < 64 then .ok (.ref h.length) (h ++ [.lst ((sortS xs).map PV.str)]) else .no
      | none => .no)
    | _ => .no)
  | _ => .no
def pairsOf : List PV → Option (List (L2.Key × PV))
  | [] => some []
  | .tup [k, v] :: r => (match zce k, pairsOf r with | some k, some l => some ((k, v) :: l) | _, _ => none)
  | _ :: _ => none
/-- dict(x): of a dict, of a list of pairs -/
def biDict (as : List PV) (h : PH) : R PV := match as with
  | [.ref n] => (match h[n]? with
    | some (.lst l) => (match pairsOf l with | some kvs => allocD (zbv [] kvs) h | none => .no)
    | some (.dct l) => allocD l h
    | _ => .no)
  | _ => .no
def biAll (as : List PV) (h : PH) : R PV := match as with
  | [a] => (match (listOf h a).bind boolsOf with | some bs => .ok (.bl (bs.all id)) h | none => .no)
  | _ => .no
def biAny (as : List PV) (h : PH) : R PV := match as with
  | [a] => (match (listOf h a).bind boolsOf with | some bs => .ok (.bl (bs.any id)) h | none => .no)
  | _ => .no
def zbh (as : List PV) (h : PH) : R PV := match as with
  | [a, .ty t] => (match tyOf h a with | some s => .ok (.bl (isTy s t)) h | none => .no)
  | [a, .tup l] => (match tyOf h a, tysOf l with | some s, some ts => .ok (.bl (ts.any (isTy s))) h | _, _ => .no)
  | _ => .no
/-- the program's own refusals -/
def excAll : List Str := ["NoBottom", "NotJoined", "NoTelling", "NoTie", "BadName", "Taken", "NoSuch", "InUse", "Full", "Far", "Flat", "BadWeight", "SameScale", "Vouched", "NotVouched", "NotSheer", "Clash", "NoText", "NoBook", "NoLevel", "NothingDone", "NoLine"]
/-- is an exception of the class x one of the class c? -/
def isX (x c : Str) : Option Bool := if x ∈ excAll ∧ (c ∈ excAll ∨ c = "BookError" ∨ c = "ValueError") then some (decide (x = c) || decide (c = "BookError") || decide (c = "ValueError")) else none
def biIsx (as : List PV) (h : PH) : R PV := match as with
  | [.xc x _ _, .cls c] => (match isX x c with | some b => .ok (.bl b) h | none => .no)
  | _ => .no
def biTuple (as : List PV) (h : PH) : R PV := match as with
  | [.tup l] => .ok (.tup l) h
  | [a] => (match listOf h a with | some l => .ok (.tup l) h | none => .no)
  | _ => .no
def biList (as : List PV) (h : PH) : R PV := match as with
  | [.ref n] => (match h[n]? with
    | some (.lst l) => .ok (.ref h.length) (h ++ [.lst l])
    | some (.dct l) => .ok (.ref h.length) (h ++ [.lst (l.map fun kv => keyP kv.1)])
    | _ => .no)
  | [.tup l] => .ok (.ref h.length) (h ++ [.lst l])
  | [.cl l] => .ok (.ref h.length) (h ++ [.lst l])
  | _ => .no
def biInt (as : List PV) (h : PH) : R PV := match as with
  | [.int i] => .ok (.int i) h
  | [.bl b] => .ok (.int (if b then 1 else 0)) h
  | _ => .no
def biMin2 (as : List PV) (h : PH) : R PV := match as with
  | [.int i, .int j] => .ok (.int (if j < i then j else i)) h
  | [.ref n] => (match h[n]? with
    | some (.lst l) => (match (intsOf l).bind List.min? with | some m => .ok (.int m) h | none => .no)
    | _ => .no)
  | _ => .no
def biMax2 (as : List PV) (h : PH) : R PV := match as with
  | [.int i, .int j] => .ok (.int (if j > i then j else i)) h
  | _ => .no
/-- min(xs, default=None), ints -/
def biMinN (as : List PV) (h : PH) : R PV := match as with
  | [.ref n] => (match h[n]? with
    | some (.lst l) => (match intsOf l with | some xs => .ok (match xs.min? with | some m => .int m | none => .non) h | none => .no)
    | _ => .no)
  | _ => .no
/-- sorted(set(xs)), ints -/
def dedupI : List Int → List Int
  | [] => []
  | x :: r => if x ∈ r then dedupI r else x :: dedupI r
def uniqI (xs : List Int) : List Int := sortI (dedupI xs)
def biSortSet (as : List PV) (h : PH) : R PV := match as with
  | [.ref n] => (match h[n]? with
    | some (.lst l) => (match intsOf l with | some xs => if xs.length < 64 then .ok (.ref h.length) (h ++ [.lst ((uniqI xs).map PV.int)]) else .no | none => .no)
    | _ => .no)
  | _ => .no
/-- dict(zip(xs, ys)) -/
def biDictZip (as : List PV) (h : PH) : R PV := match as with
  | [.ref m, .ref n] => (match h[m]?, h[n]? with
    | some (.lst l), some (.lst k) => (match mapO zce l with | some ks => allocD (zbv [] (ks.zip k)) h | none => .no)
    | _, _ => .no)
  | _ => .no
def addK (l : List L2.Key) (k : L2.Key) : List L2.Key := if (l.any fun j => decide (j = k)) = true then l else l ++ [k]
/-- len(set(xs)) -/
def biLenSet (as : List PV) (h : PH) : R PV := match as with
  | [.ref n] => (match h[n]? with
    | some (.lst l) => (match mapO zce l with | some ks => if ks.length < 1000 then .ok (.int (ks.foldl addK []).length) h else .no | none => .no)
    | _ => .no)
  | _ => .no
/-- sum(xs), ints -/
def biSum (as : List PV) (h : PH) : R PV := match as with
  | [.ref n] => (match h[n]? with
    | some (.lst l) => (match intsOf l with | some xs => .ok (.int xs.sum) h | none => .no)
    | _ => .no)
  | _ => .no
/-- isinstance(x, c), c a class of the program that is no error -/
def isInsP (c : Str) (h : PH) : PV → Option Bool
  | .ref n => match h[n]? with
    | some (.obj c' _) => some (decide (c' = c))
    | some _ => some false
    | none => none
  | .non => some false
  | .int _ => some false
  | .str _ => some false
  | .tup _ => some false
  | _ => none
def biIsC (as : List PV) (h : PH) : R PV := match as with
  | [a, .cls c] => (match isInsP c h a with | some b => .ok (.bl b) h | none => .no)
  | _ => .no
/-- list(range(a, b)) -/
def biRangeL (as : List PV) (h : PH) : R PV := match as with
  | [.int a, .int b] => if 0 ≤ a ∧ a ≤ 1000 ∧ 0 ≤ b ∧ b ≤ 1000 then .ok (.ref h.length) (h ++ [.lst ((List.range (b - a).toNat).map fun (i : Nat) => PV.int (a + (i : Int)))]) else .no
  | _ => .no
def biF : BI → List PV → PH → R PV
  | .isx => biIsx | .abs => biAbs | .len => biLen | .all => biAll | .any => biAny | .isinst => zbh | .tupleOf => biTuple | .listOf => biList | .int1 => biInt | .min2 => biMin2 | .max2 => biMax2
  | .str1 => fun _ _ => .no
  | .sorted1 => biSorted | .dictOf => biDict | .minN => biMinN | .sortSet => biSortSet | .dictZip => biDictZip | .lenSet => biLenSet | .sum => biSum | .isC => biIsC | .rangeL => biRangeL
def mtAppend (o : PV) (as : List PV) (h : PH) : R PV := match o, as with
  | .ref n, [v] => (match h[n]? with
    | some (.lst l) => if za3 (l.length + 1) then .ok .non (h.set n (.lst (l ++ [v]))) else .no
    | _ => .no)
  | _, _ => .no
/-- bs.count(b), truths alone -/
def mtCount (o : PV) (as : List PV) (h : PH) : R PV := match o, as with
  | .ref n, [.bl b] => (match h[n]? with
    | some (.lst l) => (match boolsOf l with | some bs => .ok (.int ((bs.countP fun c => c == b : Nat))) h | none => .no)
    | _ => .no)
  | _, _ => .no
def mtPopAt (o : PV) (as : List PV) (h : PH) : R PV := match o, as with
  | .ref n, [.int i] => (match h[n]? with
    | some (.lst l) => if 0 ≤ i then (match l[i.toNat]? with | some v => .ok v (h.set n (.lst (l.eraseIdx i.toNat))) | none => .no) else .no
    | _ => .no)
  | _, _ => .no
def mtJoin (o : PV) (as : List PV) (h : PH) : R PV := match o, as with
  | .str sep, [a] => (match (listOf h a).bind zcy with
    | some ys => if (ys.map (·.length)).sum + ys.length * sep.length ≤ 1000000 then .ok (.str (Txt.join sep ys)) h else .no
    | none => .no)
  | _, _ => .no
def mtGet1 (o : PV) (as : List PV) (h : PH) : R PV := match o, as with
  | .ref n, [k] => (match h[n]?, zce k with
    | some (.dct l), some k => .ok ((valP l k).getD .non) h
    | _, _ => .no)
  | _, _ => .no
def mtGet2 (o : PV) (as : List PV) (h : PH) : R PV := match o, as with
  | .ref n, [k, d] => (match h[n]?, zce k with
    | some (.dct l), some k => .ok ((valP l k).getD d) h
    | _, _ => .no)
  | _, _ => .no
def mtSetd (o : PV) (as : List PV) (h : PH) : R PV := match o, as with
  | .ref n, [k, d] => (match h[n]?, zce k with
    | some (.dct l), some k => if za3 (l.length + 1) then (match valP l k with | some v => .ok v h | none => .ok d (h.set n (.dct (putP l k d)))) else .no
    | _, _ => .no)
  | _, _ => .no
def mtClear (o : PV) (as : List PV) (h : PH) : R PV := match o, as with
  | .ref n, [] => (match h[n]? with
    | some (.lst _) => .ok .non (h.set n (.lst []))
    | _ => .no)
  | _, _ => .no
def mtInsert (o : PV) (as : List PV) (h : PH) : R PV := match o, as with
  | .ref n, [.int i, v] => (match h[n]? with
    | some (.lst l) => if za3 (l.length + 1) && decide (0 ≤ i) && decide (i < 2 ^ 62) then .ok .non (h.set n (.lst (l.take i.toNat ++ [v] ++ l.drop i.toNat))) else .no
    | _ => .no)
  | _, _ => .no
/-- xs.index(x), where it is there -/
def mtIndex (o : PV) (as : List PV) (h : PH) : R PV := match o, as with
  | .ref n, [v] => (match h[n]? with
    | some (.lst l) => (match pd h 8 v, mapO (pd h 8) l with
      | some d, some ds => (match ds.findIdx? fun z => PyData.eqv z d with | some j => .ok (.int (j : Nat)) h | none => .no)
      | _, _ => .no)
    | _ => .no)
  | _, _ => .no
def mtPop0 (o : PV) (as : List PV) (h : PH) : R PV := match o, as with
  | .ref n, [] => (match h[n]? with
    | some (.lst l) => (match l[l.length - 1]? with | some v => .ok v (h.set n (.lst l.dropLast)) | none => .no)
    | _ => .no)
  | _, _ => .no
/-- d.update(e), another dict -/
def mtUpdate (o : PV) (as : List PV) (h : PH) : R PV := match o, as with
  | .ref m, [.ref n] => (match h[m]?, h[n]? with
    | some (.dct l), some (.dct k) => if m ≠ n ∧ za3 (l.length + k.length) = true then .ok .non (h.set m (.dct (zbv l k))) else .no
    | _, _ => .no)
  | _, _ => .no
/-- d.pop(k), k is there -/
def dropP (l : List (L2.Key × PV)) (k : L2.Key) : List (L2.Key × PV) := l.filter fun kv => !decide (kv.1 = k)
def mtPopK (o : PV) (as : List PV) (h : PH) : R PV := match o, as with
  | .ref n, [k] => (match h[n]?, zce k with
    | some (.dct l), some k => (match valP l k with | some v => .ok v (h.set n (.dct (dropP l k))) | none => .no)
    | _, _ => .no)
  | _, _ => .no
def mtReverse (o : PV) (as : List PV) (h : PH) : R PV := match o, as with
  | .ref n, [] => (match h[n]? with
    | some (.lst l) => .ok .non (h.set n (.lst l.reverse))
    | _ => .no)
  | _, _ => .no
def mtExtend (o : PV) (as : List PV) (h : PH) : R PV := match o, as with
  | .ref n, [.ref m] => (match h[n]?, h[m]? with
    | some (.lst l), some (.lst k) => if za3 (l.length + k.length) then .ok .non (h.set n (.lst (l ++ k))) else .no
    | _, _ => .no)
  | _, _ => .no
def mtF : MT → PV → List PV → PH → R PV
  | .popK => mtPopK
  | .reverse => mtReverse
  | .extend => mtExtend
  | .count => mtCount
  | .append => mtAppend
  | .popAt => mtPopAt
  | .join => mtJoin
  | .get1 => mtGet1
  | .get2 => mtGet2
  | .setd => mtSetd
  | .clear => mtClear
  | .insert => mtInsert
  | .index => mtIndex
  | .pop0 => mtPop0
  | .update => mtUpdate
def zbk : PV → Option (Int × Str)
  | .tup l => (match (l[4]? : Option PV), (l[0]? : Option PV) with | some (.int t), some (.str n) => some (t, n) | _, _ => none)
  | _ => none
def leTel (p q : Int × Str) : Bool := decide (q.1 < p.1) || (decide (p.1 = q.1) && leStr p.2 q.2)
def sortT (ks : List (Int × Str)) (l : List PV) : List PV := ((ks.zip l).mergeSort fun p q => leTel p.1 q.1).map (·.2)
def srtop (a : PV) (h : PH) : R PV := match zbw h a with
  | some l => (match mapO zbk l with
    | some ks => if decide ks.Nodup && decide (l.length ≤ 1000) then .ok (.ref h.length) (h ++ [.lst (sortT ks l)]) else .no
    | none => .no)
  | none => .no
def xatop (a : PV) (f c : Str) (h : PH) : R PV := match a with
  | .xc x ns vs => if x = c then ofO ((ns.zip vs).lookup f) h else .no
  | _ => .no
mutual
def coldV : PV → Bool
  | .xc _ _ _ => false
  | .tup l => coldVs l
  | .cl l => coldVs l
  | _ => true
def coldVs : List PV → Bool
  | [] => true
  | p :: r => coldV p && coldVs r
end
def coldO : PO → Bool
  | .lst l => coldVs l
  | .dct l => coldVs (l.map (·.2))
  | .obj _ fs => coldVs (fs.map (·.2))
/-- is an exception of the class x caught by the class c? -/
def hitX (x c : Str) : Bool := decide (x = c) || decide (c = "BookError")
def fldop (c f : Str) (a : PV) (h : PH) : R PV := match a with
  | .ref n => (match h[n]? with
    | some (.obj c' fs) => if c' = c then ofO (fs.lookup f) h else .no
    | _ => .no)
  | _ => .no
/-- an instance of c that has no field m -/
def insB (c m : Str) (h : PH) : PV → Bool
  | .ref n => (match h[n]? with
    | some (.obj c' fs) => decide (c' = c) && (fs.lookup m).isNone
    | _ => false)
  | _ => false
def putO (f : Str) (v : PV) : List (Str × PV) → List (Str × PV)
  | [] => [(f, v)]
  | (g, x) :: r => if g = f then (g, v) :: r else (g, x) :: putO f v r
def setfld (c f : Str) (a v : PV) (h : PH) : Option PH := match a with
  | .ref n => (match h[n]? with
    | some (.obj c' fs) => if c' = c ∧ fs.length < 100 then some (h.set n (.obj c (putO f v fs))) else none
    | _ => none)
  | _ => none
/-- the first of these that is an instance of c -/
def isNew (v : PV) (n : Nat) (h : PH) : R PV := match v with
  | .non => .ok (.ref n) h
  | _ => .no
inductive ITK where
  | seq | range | zip | zip3 | zipT
  deriving DecidableEq
/-- a target: one name, names for a tuple's items, names and a starred one -/
inductive TgK where
  | one | tup | star | nest
  deriving DecidableEq
inductive E where
  | var (i : Nat)
  | lit (v : PV)
  | bin (op : Operator) (a b : E)
  | neg (a : E)
  | nt (a : E)
  | band (a b : E)
  | bor (a b : E)
  | cmp (op : CmpOp) (a b : E)
  | ite (t a b : E)
  | tup (es : List E)
  | lst (es : List E)
  | idx (a i : E)
  | slc (a : E) (lo hi : Option E)
  | call (f : Nat) (es : List E) (ds : List PV)
  /-- f(e, .., k = v, ..): ix puts the values in the parameters' order -/
  | callk (f : Nat) (es : List E) (ix : List Nat) (ds : List PV)
  | bi (b : BI) (es : List E)
  | mth (m : MT) (o : E) (es : List E)
  | srt (a : E)
  | dct (es : List E)
  | dcomp (k v : E) (tg : List Nat) (one : TgK) (kk : ITK) (its : List E) (cond : Option E) (own : List Nat)
  /-- {x[0] for x in xs} -/
  | firsts (j : Nat)
  /-- {scale: near if mark == far else mark for scale, mark in marks.items()} -/
  | remark (d near far : Nat)
  | comp (elt : E) (tg : List Nat) (one : TgK) (k : ITK) (its : List E) (cond : Option E) (own : List Nat)
  /-- [elt for tg in its for tg1 in its1] -/
  | comp2 (elt : E) (tg : List Nat) (one : TgK) (k : ITK) (its : List E) (tg1 : List Nat) (one1 : TgK) (k1 : ITK) (its1 : List E) (own : List Nat)
  /-- (a, b)[::s] -/
  | stp (a s : E)
  /-- xs[::-1] -/
  | rev (a : E)
  /-- a.f of an exception of the class c -/
  | xat (a : E) (f : Str) (c : Str)
  /-- a.f of an instance of c -/
  | fld (c f : Str) (a : E)
  /-- o.m(es..) of an instance of c; k: m's def -/
  | meth (c m : Str) (k : Nat) (o : E) (es : List E) (ds : List PV)
  /-- c(es..); k: its __init__ -/
  | make (c : Str) (k : Nat) (es : List E) (ds : List PV)
  /-- T[w](es..), T a table of defs -/
  | disp (tb : List (Str × Nat)) (w : E) (es : List E)
  /-- a op b op2 c -/
  | chain (op op2 : CmpOp) (a b c : E)
  /-- dict(x), x a constant of pairs -/
  | dctc (l : List (L2.Key × PV))
  /-- a == b (ne: a != b) where a is an instance of c with an own __eq__ -/
  | oeq (c : Str) (k : Nat) (ne : Bool) (a b : E)
  /-- a or b, a any thing that has a truth -/
  | orv (a b : E)
inductive Tgt where
  | nm (i : Nat)
  | tup (is : List Nat)
  | unl (is : List Nat)
  | sub (o i : E)
  | fld (c f : Str) (o : E)
  /-- a, .., *b = a tuple -/
  | ust (is : List Nat)
inductive S where
  | asg (g : Tgt) (e : E)
  | aug (i : Nat) (op : Operator) (e : E)
  | augs (o i : E) (op : Operator) (e : E)
  /-- o.f op= e -/
  | augf (c f : Str) (o : E) (op : Operator) (e : E)
  | ifs (t : E) (a b : List S)
  | whl (t : E) (b : List S)
  | fr (tg : List Nat) (one : TgK) (k : ITK) (its : List E) (b : List S)
  | ret (e : E)
  | ret0
  | ex (e : E)
  | pass
  | brk
  | cont
  /-- raise x(es..), the fields' names newest first -/
  | raise (x : Str) (ns : List Str) (es : List E)
  /-- try: b  except c: s; what b lets out is of xs -/
  | tryN (b : List S) (c : Str) (xs : List Str) (s : List S)
  /-- try: b  except c as e: if fi(e): j = (lit, e.f, ..) | j = (lit, e.f, .., fi(e)): i is e's slot, ns the fields' names, fs those that are read, ex what goes behind -/
  | tryA (b : List S) (c : Str) (xs : List Str) (fi i j : Nat) (lit : Str) (ns fs : List Str) (ex : List PV)
  /-- what is told nothing of -/
  | hole
  /-- try: b  except ..: hs are all .hd; what b lets out is of xs -/
  | tryH (b : List S) (xs : List Str) (hs : List S)
  /-- except c as i: b -/
  | hd (c : Str) (i : Option Nat) (b : List S)
structure Fn where
  np : Nat
  ns : Nat
  body : List S
abbrev Env := List (Option PV)
def Env.get (ρ : Env) (i : Nat) : Option PV := match ρ[i]? with | some (some v) => some v | _ => none
def zbi (ρ : Env) : List Nat → Env
  | [] => ρ
  | i :: r => (zbi ρ r).set i none
def zbx (ρ : Env) : List Nat → List PV → Option Env
  | [], [] => some ρ
  | i :: is, v :: vs => zbx (ρ.set i (some v)) is vs
  | _, _ => none
/-- a loop's target: one name, or names for a tuple's items -/
def zbo (ρ : Env) (is : List Nat) (one : TgK) (v : PV) : Option Env :=
  match one, is, v with
  | .one, [i], v => some (ρ.set i (some v))
  | .tup, is, .tup l => zbx ρ is l
  | .nest, i :: is, .tup [a, .tup l] => zbx (ρ.set i (some a)) is l
  | .star, is, .tup l => if is.length ≤ l.length + 1 ∧ l.length ≤ 1000 then (match is.getLast? with | some j => (zbx ρ is.dropLast (l.take (is.length - 1))).map fun ρ' => ρ'.set j none | none => none) else none
  | _, _, _ => none
/-- what a loop walks: its items, and what must stay as it is -/
def rangeP (n : Int) : List PV := (List.range n.toNat).map fun i => .int (i : Nat)
end Sb
namespace Sb
open PySem PySem.Spec PyProof.Rows L2
def lamNames : List Str := ["in_order", "_law_in_order"]
def tabsOf (K : PySem.W.Frag) : List (Addr × Str) := lamNames.filterMap fun x => (PySem.W.tabIn K x).map fun p => (p.2, x ++ ".<locals>." ++ "<lambda>")
mutual
def pvB (K : PySem.W.Frag) : PV → Value → Bool
  | .non, .none => true
  | .bl b, .bool c => b == c
  | .int i, .int j _ => decide (i = j)
  | .str x, .str y _ => decide (x = y)
  | .tup l, .ref a => (match K.lookup a with
    | some ⟨.type c, _, .seq its _, _⟩ => decide (c = "tuple") && (decide (its.size ≤ sizeLine) && pvsB K l its.toList)
    | _ => false)
  | .cl l, .ref a => (match K.lookup a with
    | some ⟨.type c, none, .seq its _, _⟩ => decide (c = "list") && (decide (its.size ≤ sizeLine) && pvsB K l its.toList)
    | _ => false)
  | _, _ => false
def pvsB (K : PySem.W.Frag) : List PV → List Value → Bool
  | [], [] => true
  | p :: ps, u :: us => pvB K p u && pvsB K ps us
  | _, _ => false
end
def conB (K : PySem.W.Frag) (x : Str) (p : PV) : Bool := match PySem.W.nsIn K mainGlobals x with
  | some (some u) => pvB K p u
  | _ => false
abbrev AlE : Type := He.AlD × Bool
def tabCs (K : PySem.W.Frag) : List (Addr × Addr) := lamNames.filterMap fun x => PySem.W.tabIn K x
def tabB (K : PySem.W.Frag) (xs : List Str) : Bool := decide ((tabsOf K).map (·.1)).Nodup && ((tabsOf K).all fun p => (K.lookup p.1).isNone) && (xs.all fun x => (PySem.W.tabIn K x).isSome) && lamNames.all fun x => xs.contains x || (PySem.W.tabIn K x).isNone
def notTab (o : Option Obj) : Bool := match o with
  | some ⟨.none, _, .fields _, _⟩ => false
  | _ => true
def frT (g : Addr → Option Obj) (n : Nat) : PySem.W.Frag := He.frG g (cStatics :: (He.asD g n).filter fun a => notTab (g a))
abbrev AlU : Type := AlE × List (Option (List (Option (Str × Int))))
def tbsU (ts : List (Str × List Str)) (K : PySem.W.Frag) : List (Option (List (Option (Str × Int)))) := ts.map fun t => He.dicW K (He.ga K t.1)
def keyU (ts : List (Str × List Str)) (w : World) : List (Option (List (Option (Str × Int)))) := ts.map fun t => some (He.keysIn w.params t.2)
def obsK (fa : List He.Fa) (fn : List He.DefD) (ex : PySem.W.Frag → Bool) (ts : List (Str × List Str)) (K : PySem.W.Frag) : AlU := ((He.obsD fa fn K, ex K), tbsU ts K)
def hookU (n : Nat) (fa : List He.Fa) (fn : List He.DefD) (ex : PySem.W.Frag → Bool) (ts : List (Str × List Str)) : PySem.W.Hook where
  α := AlU
  obs := fun s => obsK fa fn ex ts (frT s.heap.get? n)
  val := fun w => ((He.valD fn, true), keyU ts w)
  says := fun w h => ∃ K : PySem.W.Frag, K.In h ∧ He.SaysD fa fn K ∧ ex K = true ∧ tbsU ts K = keyU ts w
  of := fun w s e => by
    have e' : ((He.obsD fa fn (frT s.heap.get? n), ex (frT s.heap.get? n)), tbsU ts (frT s.heap.get? n)) = ((He.valD fn, true), keyU ts w) := e
    obtain ⟨e1, e2⟩ := Prod.mk.inj e'
    obtain ⟨e3, e4⟩ := Prod.mk.inj e1
    exact ⟨_, He.frG_in, e3, e4, e2⟩
  keeps := fun _ _ _ ⟨K, hK, c⟩ k => ⟨K, PySem.W.Frag.In.keeps hK k, c⟩
def obsU (n : Nat) (fa : List He.Fa) (fn : List He.DefD) (ex : PySem.W.Frag → Bool) (ts : List (Str × List Str)) (s : PySem.W.SharedT) : AlU := obsK fa fn ex ts (frT (HandSHeadRun.getT s) n)
/-- a class of the program, its fields; a method; its making -/
def clB (K : PySem.W.Frag) (c : Str) (fs : List Str) : Bool := PySem.W.plainGet K (He.ga K c) Str.empty && (PySem.W.hasDictIn K (He.ga K c) && (PySem.W.plainOver K (He.ga K c) && (He.eqO (PySem.W.findIn K (.ref (He.ga K c)) "__setattr__") (some (some (.builtin "object.__setattr__"))) &&
  fs.all fun f => He.eqO (PySem.W.findIn K (.ref (He.ga K c)) f) (some none))))
def bkB (K : PySem.W.Frag) (b : Str) : Bool := He.eqO (PySem.W.nsIn K mainGlobals b) (some (some (.ref (He.ga K b)))) && (He.eqO (PySem.W.specialIn K (.ref (He.ga K b)) "__getattribute__") (some (some (.builtin "type.__getattribute__"))) && (PySem.W.readsIn K (He.ga K b) (.type "type") &&
  (match PySem.W.findCls K (.ref (He.ga K b)) (.type "type") "__init__" with | some (.val (.builtin n)) => decide (n = "ValueError.__init__") | _ => false)))
def oexB (K : PySem.W.Frag) (C : Addr) : Bool := (match K.lookup C with
  | some ⟨.type "type", _, .cls cd, sl⟩ => (match cd.mro, sl.toList with
    | .ref C' :: bm, [_, _, _, _, some (.builtin n), _] => C' == C && n == "ValueError.__new__" && !cd.hasDel && cd.hasDict && PySem.HandSPX.refsVE bm
    | _, _ => false)
  | _ => false) && (He.eqO (PySem.W.findIn K (.ref C) "__setattr__") (some (some (.builtin "object.__setattr__"))) && (decide (PySem.W.subIn K (.ref C) (.type "BaseException") = some true) && (decide (PySem.W.typeIn K (.ref C) = some (.type "type")) && PySem.W.keepIn K (.ref C))))
def xcB (K : PySem.W.Frag) (x : Str) (fs : List Str) : Bool := oexB K (He.ga K x) && (He.eqO (PySem.W.nsIn K mainGlobals x) (some (some (.ref (He.ga K x)))) && (He.eqO (PySem.W.findIn K (.ref (He.ga K x)) "__init__") (some (some (.ref (He.ma K (He.ga K x) "__init__")))) &&
  (decide (PySem.W.typeIn K (.ref (He.ma K (He.ga K x) "__init__")) = some (.type "function")) && fs.all fun f => He.eqO (PySem.W.findIn K (.ref (He.ga K x)) f) (some none))))
def hdB (K : PySem.W.Frag) (c : Str) (xs : List Str) : Bool := He.eqO (PySem.W.nsIn K mainGlobals c) (some (some (.ref (He.ga K c)))) && xs.all fun y => decide (PySem.W.exmOne K (.ref (He.ga K y)) (.ref (He.ga K c)) = some (decide (y = c)))
def hdJB (K : PySem.W.Frag) (c : Str) (xs : List Str) : Bool := He.eqO (PySem.W.nsIn K mainGlobals c) (some (some (.ref (He.ga K c)))) && xs.all fun y => decide (PySem.W.exmOne K (.ref (He.ga K y)) (.ref (He.ga K c)) = some (hitX y c))
def xkB (K : PySem.W.Frag) : Bool := He.eqO (PySem.W.specialIn K (.builtin "object.__class__") "__get__") (some (some (.builtin "getset_descriptor.__get__"))) && (decide (PySem.W.takesIn K (.builtin "object.__class__") = some true) &&
  excAll.all fun x => (PySem.W.clsIn K (He.ga K x)).isSome && (He.eqO (PySem.W.findIn K (.ref (He.ga K x)) "__getattribute__") (some (some (.builtin "BaseException.__getattribute__"))) && (He.eqO (PySem.W.findIn K (.ref (He.ga K x)) "__getattr__") (some none) && (decide (PySem.W.subIn K (.ref (He.ga K x)) (.type "BaseException") = some true) &&
    (He.eqO (PySem.W.findIn K (.ref (He.ga K x)) "__class__") (some (some (.builtin "object.__class__"))) && (decide (PySem.W.mroIn K (He.ga K x) (.type "object") = some true) &&
    ((excAll.all fun c => decide (PySem.W.kitOne K (.ref (He.ga K x)) (.ref (He.ga K c)) = some (decide (x = c)))) && (decide (PySem.W.kitOne K (.ref (He.ga K x)) (.ref (He.ga K "BookError")) = some true) && decide (PySem.W.kitOne K (.ref (He.ga K x)) (.type "ValueError") = some true)))))))))
end Sb
set_option maxHeartbeats 0
namespace Sb
open PySem PySem.Spec L2
def topS (i : Nat) : Stmt := PySem.Challenge.pw_scalebook_k35_whole_heirs_take_the_place.main.body.getD i (.Pass ⟨0, 0, 0, 0⟩)
abbrev s_common : Stmt := topS 25
abbrev zbr : Stmt := topS 26
abbrev s_plus_of : Stmt := topS 27
abbrev s_less_of : Stmt := topS 28
abbrev s_times_of : Stmt := topS 29
abbrev s_over_of : Stmt := topS 30
abbrev zb1 : Stmt := topS 34
abbrev s_read_by : Stmt := topS 35
abbrev zco : Stmt := topS 36
abbrev zcp : Stmt := topS 37
abbrev zc1 : Stmt := topS 39
abbrev zc0 : Stmt := topS 40
abbrev s_named : Stmt := topS 41
abbrev zcz : Stmt := topS 42
abbrev s_ties_of : Stmt := topS 43
abbrev zb2 : Stmt := topS 44
abbrev zbp : Stmt := topS 45
abbrev zb3 : Stmt := topS 46
abbrev zbq : Stmt := topS 47
abbrev s_road_of : Stmt := topS 48
abbrev zbm : Stmt := topS 49
abbrev s_heir_of : Stmt := topS 51
abbrev zci : Stmt := topS 53
abbrev s_words_of : Stmt := topS 54
abbrev zba : Stmt := topS 56
abbrev zct : Stmt := topS 57
abbrev s__law_mix : Stmt := topS 58
abbrev zb5 : Stmt := topS 59
abbrev za4 : Stmt := topS 60
abbrev zbs : Stmt := topS 61
abbrev zcr : Stmt := topS 62
abbrev zb6 : Stmt := topS 63
abbrev s__law_led : Stmt := topS 64
abbrev zcq : Stmt := topS 65
abbrev zcu : Stmt := topS 66
abbrev zbb : Stmt := topS 67
abbrev zb4 : Stmt := topS 68
abbrev za7 : Stmt := topS 69
abbrev zb7 : Stmt := topS 71
abbrev zcs : Stmt := topS 72
abbrev s_law : Stmt := topS 73
abbrev zb8 : Stmt := topS 70
abbrev zbl : Stmt := (match topS 2 with | .ClassDef _ _ _ b .. => b | _ => []).getD 0 (.Pass ⟨0, 0, 0, 0⟩)
abbrev za9 : Stmt := (match topS 4 with | .ClassDef _ _ _ b .. => b | _ => []).getD 0 (.Pass ⟨0, 0, 0, 0⟩)
abbrev zc2 : Stmt := (match topS 5 with | .ClassDef _ _ _ b .. => b | _ => []).getD 0 (.Pass ⟨0, 0, 0, 0⟩)
abbrev za8 : Stmt := (match topS 3 with | .ClassDef _ _ _ b .. => b | _ => []).getD 0 (.Pass ⟨0, 0, 0, 0⟩)
def hfa : List He.Fa := [.glo "common", .glo "fraction_of", .glo "plus_of", .glo "less_of", .glo "times_of", .glo "over_of", .glo "stretch_by", .glo "read_by", .glo "move_then", .glo "move_back", .glo "in_order", .glo "order_of", .glo "named", .glo "tie_rows", .glo "ties_of", .glo "steps_from", .glo "roads_among", .glo "road_among", .glo "reach_among", .glo "road_of", .glo "chain_move", .glo "heir_of", .glo "bars_of", .glo "words_of", .glo "_law_start", .glo "_law_draw", .glo "_law_mix", .glo "_law_whole", .glo "_law_same", .glo "_law_lowest", .glo "_law_plus", .glo "_law_times", .glo "_law_led", .glo "_law_then", .glo "_law_back", .glo "_law_names", .glo "_law_world", .glo "_law_tellings", .glo "_law_apart", .glo "_law_heir", .glo "law", .glo "_law_alone", .free "ValueError", .free "abs", .free "all", .free "bool", .free "int", .free "isinstance", .free "len", .free "list", .free "min", .free "range", .free "sorted", .free "str", .free "tuple", .free "zip", .glo "BadName", .glo "BadWeight", .glo "BookError", .glo "Clash", .glo "Far", .glo "Flat", .glo "Full", .glo "InUse", .glo "NoBook", .glo "NoBottom", .glo "NoLevel", .glo "NoLine", .glo "NoSuch", .glo "NoTelling", .glo "NoText", .glo "NoTie", .glo "NotJoined", .glo "NotSheer", .glo "NotVouched", .glo "NothingDone", .glo "SameScale", .glo "Taken", .glo "Vouched"]
def d_common : He.DefD := ⟨("common", none), "common", "common", defArgs s_common, defBody s_common, defScope s_common, [], []⟩
def d_fraction_of : He.DefD := ⟨("fraction_of", none), "fraction_of", "fraction_of", defArgs zbr, defBody zbr, defScope zbr, [(.int 1)], []⟩
def d_plus_of : He.DefD := ⟨("plus_of", none), "plus_of", "plus_of", defArgs s_plus_of, defBody s_plus_of, defScope s_plus_of, [], []⟩
def d_less_of : He.DefD := ⟨("less_of", none), "less_of", "less_of", defArgs s_less_of, defBody s_less_of, defScope s_less_of, [], []⟩
def d_times_of : He.DefD := ⟨("times_of", none), "times_of", "times_of", defArgs s_times_of, defBody s_times_of, defScope s_times_of, [], []⟩
def d_over_of : He.DefD := ⟨("over_of", none), "over_of", "over_of", defArgs s_over_of, defBody s_over_of, defScope s_over_of, [], []⟩
def d_stretch_by : He.DefD := ⟨("stretch_by", none), "stretch_by", "stretch_by", defArgs zb1, defBody zb1, defScope zb1, [], []⟩
def d_read_by : He.DefD := ⟨("read_by", none), "read_by", "read_by", defArgs s_read_by, defBody s_read_by, defScope s_read_by, [], []⟩
def d_move_then : He.DefD := ⟨("move_then", none), "move_then", "move_then", defArgs zco, defBody zco, defScope zco, [], []⟩
def d_move_back : He.DefD := ⟨("move_back", none), "move_back", "move_back", defArgs zcp, defBody zcp, defScope zcp, [], []⟩
def d_in_order : He.DefD := ⟨("in_order", none), "in_order", "in_order", defArgs zc1, defBody zc1, defScope zc1, [], []⟩
def d_order_of : He.DefD := ⟨("order_of", none), "order_of", "order_of", defArgs zc0, defBody zc0, defScope zc0, [], []⟩
def d_named : He.DefD := ⟨("named", none), "named", "named", defArgs s_named, defBody s_named, defScope s_named, [], []⟩
def d_tie_rows : He.DefD := ⟨("tie_rows", none), "tie_rows", "tie_rows", defArgs zcz, defBody zcz, defScope zcz, [], []⟩
def d_ties_of : He.DefD := ⟨("ties_of", none), "ties_of", "ties_of", defArgs s_ties_of, defBody s_ties_of, defScope s_ties_of, [], []⟩
def d_steps_from : He.DefD := ⟨("steps_from", none), "steps_from", "steps_from", defArgs zb2, defBody zb2, defScope zb2, [], []⟩
def d_roads_among : He.DefD := ⟨("roads_among", none), "roads_among", "roads_among", defArgs zbp, defBody zbp, defScope zbp, [], []⟩
def d_road_among : He.DefD := ⟨("road_among", none), "road_among", "road_among", defArgs zb3, defBody zb3, defScope zb3, [], []⟩
def d_reach_among : He.DefD := ⟨("reach_among", none), "reach_among", "reach_among", defArgs zbq, defBody zbq, defScope zbq, [], []⟩
def d_road_of : He.DefD := ⟨("road_of", none), "road_of", "road_of", defArgs s_road_of, defBody s_road_of, defScope s_road_of, [], []⟩
def d_chain_move : He.DefD := ⟨("chain_move", none), "chain_move", "chain_move", defArgs zbm, defBody zbm, defScope zbm, [], []⟩
def d_heir_of : He.DefD := ⟨("heir_of", none), "heir_of", "heir_of", defArgs s_heir_of, defBody s_heir_of, defScope s_heir_of, [], []⟩
def d_bars_of : He.DefD := ⟨("bars_of", none), "bars_of", "bars_of", defArgs zci, defBody zci, defScope zci, [], []⟩
def d_words_of : He.DefD := ⟨("words_of", none), "words_of", "words_of", defArgs s_words_of, defBody s_words_of, defScope s_words_of, [], []⟩
def d__law_start : He.DefD := ⟨("_law_start", none), "_law_start", "_law_start", defArgs zba, defBody zba, defScope zba, [], []⟩
def d__law_draw : He.DefD := ⟨("_law_draw", none), "_law_draw", "_law_draw", defArgs zct, defBody zct, defScope zct, [], []⟩
def d__law_mix : He.DefD := ⟨("_law_mix", none), "_law_mix", "_law_mix", defArgs s__law_mix, defBody s__law_mix, defScope s__law_mix, [], []⟩
def d__law_whole : He.DefD := ⟨("_law_whole", none), "_law_whole", "_law_whole", defArgs zb5, defBody zb5, defScope zb5, [], []⟩
def d__law_same : He.DefD := ⟨("_law_same", none), "_law_same", "_law_same", defArgs za4, defBody za4, defScope za4, [], []⟩
def d__law_lowest : He.DefD := ⟨("_law_lowest", none), "_law_lowest", "_law_lowest", defArgs zbs, defBody zbs, defScope zbs, [], []⟩
def d__law_plus : He.DefD := ⟨("_law_plus", none), "_law_plus", "_law_plus", defArgs zcr, defBody zcr, defScope zcr, [], []⟩
def d__law_times : He.DefD := ⟨("_law_times", none), "_law_times", "_law_times", defArgs zb6, defBody zb6, defScope zb6, [], []⟩
def d__law_led : He.DefD := ⟨("_law_led", none), "_law_led", "_law_led", defArgs s__law_led, defBody s__law_led, defScope s__law_led, [], []⟩
def d__law_then : He.DefD := ⟨("_law_then", none), "_law_then", "_law_then", defArgs zcq, defBody zcq, defScope zcq, [], []⟩
def d__law_back : He.DefD := ⟨("_law_back", none), "_law_back", "_law_back", defArgs zcu, defBody zcu, defScope zcu, [], []⟩
def d__law_names : He.DefD := ⟨("_law_names", none), "_law_names", "_law_names", defArgs zbb, defBody zbb, defScope zbb, [], []⟩
def d__law_world : He.DefD := ⟨("_law_world", none), "_law_world", "_law_world", defArgs zb4, defBody zb4, defScope zb4, [], []⟩
def d__law_tellings : He.DefD := ⟨("_law_tellings", none), "_law_tellings", "_law_tellings", defArgs za7, defBody za7, defScope za7, [], []⟩
def d__law_apart : He.DefD := ⟨("_law_apart", none), "_law_apart", "_law_apart", defArgs zb7, defBody zb7, defScope zb7, [], []⟩
def d__law_heir : He.DefD := ⟨("_law_heir", none), "_law_heir", "_law_heir", defArgs zcs, defBody zcs, defScope zcs, [], []⟩
def d_law : He.DefD := ⟨("law", none), "law", "law", defArgs s_law, defBody s_law, defScope s_law, [], []⟩
def d__law_alone : He.DefD := ⟨("_law_alone", none), "_law_alone", "_law_alone", defArgs zb8, defBody zb8, defScope zb8, [], []⟩
def d_NoBottom_init : He.DefD := ⟨("NoBottom", some "__init__"), "__init__", "NoBottom.__init__", defArgs zbl, defBody zbl, defScope zbl, [], []⟩
def d_NoTelling_init : He.DefD := ⟨("NoTelling", some "__init__"), "__init__", "NoTelling.__init__", defArgs za9, defBody za9, defScope za9, [], []⟩
def d_NoTie_init : He.DefD := ⟨("NoTie", some "__init__"), "__init__", "NoTie.__init__", defArgs zc2, defBody zc2, defScope zc2, [], []⟩
def d_NotJoined_init : He.DefD := ⟨("NotJoined", some "__init__"), "__init__", "NotJoined.__init__", defArgs za8, defBody za8, defScope za8, [], []⟩
def hfn : List He.DefD := [d_common, d_fraction_of, d_plus_of, d_less_of, d_times_of, d_over_of, d_stretch_by, d_read_by, d_move_then, d_move_back, d_in_order, d_order_of, d_named, d_tie_rows, d_ties_of, d_steps_from, d_roads_among, d_road_among, d_reach_among, d_road_of, d_chain_move, d_heir_of, d_bars_of, d_words_of, d__law_start, d__law_draw, d__law_mix, d__law_whole, d__law_same, d__law_lowest, d__law_plus, d__law_times, d__law_led, d__law_then, d__law_back, d__law_names, d__law_world, d__law_tellings, d__law_apart, d__law_heir, d_law, d__law_alone, d_NoBottom_init, d_NoTelling_init, d_NoTie_init, d_NotJoined_init]
def hex (K : PySem.W.Frag) : Bool := tabB K ["in_order"] && conB K "NOUGHT" (.tup [(.int 0), (.int 1)]) && conB K "SAME" (.tup [(.tup [(.int 1), (.int 1)]), (.tup [(.int 0), (.int 1)])]) && bkB K "BookError" && xcB K "NoBottom" ["top"] && xcB K "NoTelling" ["name"] && xcB K "NoTie" ["name"] && xcB K "NotJoined" ["start", "end"] && hdB K "NoTie" ["NoBottom", "NoTelling", "NoTie", "NotJoined"] && xfB K (He.ga K "NotJoined") && hdJB K "NotJoined" ["NoBottom", "NoTelling", "NoTie", "NotJoined"] && xkB K
abbrev Rr : PySem.W.OpenRow := PySem.W.OpenLaw.row PySem.Challenge.rw_scalebook_k35_whole_heirs_take_the_place
def loose : List PySem.Str := [("BookError" : PySem.Str), ("NoBottom" : PySem.Str), ("NotJoined" : PySem.Str), ("NoTelling" : PySem.Str), ("NoTie" : PySem.Str), ("BadName" : PySem.Str), ("Taken" : PySem.Str), ("NoSuch" : PySem.Str), ("InUse" : PySem.Str), ("Full" : PySem.Str), ("Far" : PySem.Str), ("Flat" : PySem.Str), ("BadWeight" : PySem.Str), ("SameScale" : PySem.Str), ("Vouched" : PySem.Str), ("NotVouched" : PySem.Str), ("NotSheer" : PySem.Str), ("Clash" : PySem.Str), ("NoText" : PySem.Str), ("NoBook" : PySem.Str), ("NoLevel" : PySem.Str), ("NothingDone" : PySem.Str), ("NoLine" : PySem.Str), ("common" : PySem.Str), ("fraction_of" : PySem.Str), ("plus_of" : PySem.Str), ("less_of" : PySem.Str), ("times_of" : PySem.Str), ("over_of" : PySem.Str), ("NOUGHT" : PySem.Str), ("SAME" : PySem.Str), ("stretch_by" : PySem.Str), ("read_by" : PySem.Str), ("move_then" : PySem.Str), ("move_back" : PySem.Str), ("order_of" : PySem.Str), ("named" : PySem.Str), ("tie_rows" : PySem.Str), ("ties_of" : PySem.Str), ("steps_from" : PySem.Str), ("roads_among" : PySem.Str), ("road_among" : PySem.Str), ("reach_among" : PySem.Str), ("road_of" : PySem.Str), ("chain_move" : PySem.Str), ("heir_of" : PySem.Str), ("bars_of" : PySem.Str), ("words_of" : PySem.Str), ("_law_start" : PySem.Str), ("_law_draw" : PySem.Str), ("_law_mix" : PySem.Str), ("_law_whole" : PySem.Str), ("_law_same" : PySem.Str), ("_law_lowest" : PySem.Str), ("_law_plus" : PySem.Str), ("_law_times" : PySem.Str), ("_law_led" : PySem.Str), ("_law_then" : PySem.Str), ("_law_back" : PySem.Str), ("_law_names" : PySem.Str), ("_law_world" : PySem.Str), ("_law_tellings" : PySem.Str), ("_law_alone" : PySem.Str), ("_law_apart" : PySem.Str), ("_law_heir" : PySem.Str)]
def hts : List (Str × List Str) := []
theorem run (w : World) : HandSHeadRun.RunEq Rr (PySem.W.view Rr.prog [39, 73]) (hookU 5 hfa hfn hex hts) (obsU 5 hfa hfn hex hts) 9000 loose w := by
  intro os
  kernel_rfl
end Sb
set_option maxHeartbeats 4000000
namespace Sb
open PySem
/-- what two zipped things give -/
def zipP : List PV → List PV → List PV
  | a :: as, b :: bs => .tup [a, b] :: zipP as bs
  | _, _ => []
def zipP3 : List PV → List PV → List PV → List PV
  | a :: as, b :: bs, c :: cs => .tup [a, b, c] :: zipP3 as bs cs
  | _, _, _ => []
abbrev Keep := List (Nat × List PV)
def zbn (kp : Keep) (h : PH) : Prop := ∀ p ∈ kp, h[p.1]? = some (.lst p.2)
/-- what a loop walks: its items, and what must stay as it is -/
def walkSeq (as : List PV) (h : PH) : Option (List PV × Keep) := match as with
  | [.cl l] => some (l, [])
  | [.ref n] => (match h[n]? with | some (.lst l) => some (l, [(n, l)]) | _ => none)
  | [.tup l] => some (l, [])
  | [.str z] => some (z.cps.toList.map fun c => .str ⟨#[c]⟩, [])
  | _ => none
def walkRange (as : List PV) (h : PH) : Option (List PV × Keep) := match as with
  | [.int n] => if n < 2 ^ 62 ∧ -(2 ^ 62) ≤ n then some (rangeP n, []) else none
  | _ => none
def walkZip (as : List PV) (h : PH) : Option (List PV × Keep) := match as with
  | [.tup l, .tup k] => some (zipP l k, [])
  | [.ref m, .ref n] => (match h[m]?, h[n]? with
    | some (.lst l), some (.lst k) => some (zipP l k, [(m, l), (n, k)])
    | _, _ => none)
  | _ => none
def walkZip3 (as : List PV) (h : PH) : Option (List PV × Keep) := match as with
  | [.ref m, .ref n, .ref k] => (match h[m]?, h[n]?, h[k]? with
    | some (.lst l), some (.lst l2), some (.lst l3) => some (zipP3 l l2 l3, [(m, l), (n, l2), (k, l3)])
    | _, _, _ => none)
  | _ => none
def walkZipT (as : List PV) (h : PH) : Option (List PV × Keep) := match as with
  | [.tup l, .tup k] => some (zipP l k, [])
  | _ => none
def zcm : ITK → List PV → PH → Option (List PV × Keep)
  | .zipT => walkZipT
  | .seq => walkSeq
  | .range => walkRange
  | .zip => walkZip
  | .zip3 => walkZip3
inductive RS where
  | nx (ρ : Env) (h : PH)
  | rt (v : PV) (h : PH)
  | bk (ρ : Env) (h : PH)
  | ct (ρ : Env) (h : PH)
  | ex (x : Exn) (ρ : Env) (h : PH)
  | no
/-- an expression ahead of a statement's rest -/
def R.st {α : Type} (m : R α) (ρ : Env) (f : α → PH → RS) : RS := match m with | .ok a h => f a h | .ex x h => .ex x ρ h | .no => .no
@[simp] theorem R.st_ok {α : Type} (a : α) (h : PH) (ρ : Env) (f : α → PH → RS) : (R.ok a h).st ρ f = f a h := rfl
@[simp] theorem R.st_no {α : Type} (ρ : Env) (f : α → PH → RS) : (R.no : R α).st ρ f = .no := rfl
@[simp] theorem R.st_ex {α : Type} (x : Exn) (h : PH) (ρ : Env) (f : α → PH → RS) : (R.ex x h : R α).st ρ f = .ex x ρ h := rfl
def RS.seq (m : RS) (f : Env → PH → RS) : RS := match m with | .nx ρ h => f ρ h | r => r
@[simp] theorem RS.seq_nx (ρ : Env) (h : PH) (f : Env → PH → RS) : (RS.nx ρ h).seq f = f ρ h := rfl
@[simp] theorem RS.seq_rt (v : PV) (h : PH) (f : Env → PH → RS) : (RS.rt v h).seq f = .rt v h := rfl
@[simp] theorem RS.seq_no (f : Env → PH → RS) : RS.no.seq f = .no := rfl
@[simp] theorem RS.seq_bk (ρ : Env) (h : PH) (f : Env → PH → RS) : (RS.bk ρ h).seq f = .bk ρ h := rfl
@[simp] theorem RS.seq_ct (ρ : Env) (h : PH) (f : Env → PH → RS) : (RS.ct ρ h).seq f = .ct ρ h := rfl
@[simp] theorem RS.seq_ex (x : Exn) (ρ : Env) (h : PH) (f : Env → PH → RS) : (RS.ex x ρ h).seq f = .ex x ρ h := rfl
open Classical in
noncomputable def compLoop (kp : Keep) (bind : PV → Option Env) (t : Env → PH → R Bool) (e : Env → PH → R PV) : List PV → List PV → PH → R (List PV)
  | [], acc, h => if zbn kp h then .ok acc h else .no
  | x :: xs, acc, h => if zbn kp h then
      (match bind x with
      | some ρ => (t ρ h).bind fun b h1 => if b then (e ρ h1).bind fun v h2 => if za3 (acc.length + 1) then compLoop kp bind t e xs (acc ++ [v]) h2 else .no else compLoop kp bind t e xs acc h1
      | none => .no) else .no
open Classical in
/-- two fors: inner goes through what one item of the outer one gives -/
noncomputable def comp2Loop (kp : Keep) (bind : PV → Option Env) (inner : Env → List PV → PH → R (List PV)) : List PV → List PV → PH → R (List PV)
  | [], acc, h => if zbn kp h then .ok acc h else .no
  | x :: xs, acc, h => if zbn kp h then
      (match bind x with
      | some ρ => (inner ρ acc h).bind fun l h1 => comp2Loop kp bind inner xs l h1
      | none => .no) else .no
open Classical in
noncomputable def za5 (kp : Keep) (bind : PV → Option Env) (t : Env → PH → R Bool) (ek ev : Env → PH → R PV) : List PV → List (L2.Key × PV) → PH → R (List (L2.Key × PV))
  | [], acc, h => if zbn kp h then .ok acc h else .no
  | x :: xs, acc, h => if zbn kp h then
      (match bind x with
      | some ρ => (t ρ h).bind fun b h1 => if b then (ek ρ h1).bind fun k h2 => (ev ρ h2).bind fun v h3 => (match zce k with | some k => if za3 (acc.length + 1) then za5 kp bind t ek ev xs (putP acc k v) h3 else .no | none => .no) else za5 kp bind t ek ev xs acc h1
      | none => .no) else .no
/-- {x[0] for x in xs} -/
def firstK : PV → Option L2.Key
  | .tup (p :: _) => zce p
  | _ => none
def firstsP (d : Option PV) (h : PH) : R PV := match d with
  | some (.ref n) => (match h[n]? with
    | some (.lst l) => (match mapO firstK l with
      | some ks => if l.length < 1000 then .ok (.ste (ks.foldl addK [])) h else .no
      | none => .no)
    | _ => .no)
  | _ => .no
/-- {scale: near if mark == far else mark for scale, mark in marks.items()} -/
def zbc (a b : Str) (l : List (L2.Key × PV)) : List (L2.Key × PV) := l.map fun kv => (kv.1, match kv.2 with | .str m => .str (if m = b then a else m) | v => v)
def remarkP (d near far : Option PV) (h : PH) : R PV := match d, near, far with
  | some (.ref n), some (.str a), some (.str b) => (match h[n]? with
    | some (.dct l) => (match zcy (l.map (·.2)) with
      | some _ => if za3 (l.length + 1) then allocD (zbv [] (zbc a b l)) h else .no
      | none => .no)
    | _ => .no)
  | _, _, _ => .no
/-- a loop's turn ends: the next one, or the loop's end -/
def RS.turn (m : RS) (f : Env → PH → RS) : RS := match m with | .nx ρ h => f ρ h | .ct ρ h => f ρ h | .bk ρ h => .nx ρ h | r => r
@[simp] theorem RS.turn_nx (ρ : Env) (h : PH) (f : Env → PH → RS) : (RS.nx ρ h).turn f = f ρ h := rfl
@[simp] theorem RS.turn_ct (ρ : Env) (h : PH) (f : Env → PH → RS) : (RS.ct ρ h).turn f = f ρ h := rfl
@[simp] theorem RS.turn_bk (ρ : Env) (h : PH) (f : Env → PH → RS) : (RS.bk ρ h).turn f = .nx ρ h := rfl
@[simp] theorem RS.turn_rt (v : PV) (h : PH) (f : Env → PH → RS) : (RS.rt v h).turn f = .rt v h := rfl
@[simp] theorem RS.turn_ex (x : Exn) (ρ : Env) (h : PH) (f : Env → PH → RS) : (RS.ex x ρ h).turn f = .ex x ρ h := rfl
@[simp] theorem RS.turn_no (f : Env → PH → RS) : RS.no.turn f = .no := rfl
open Classical in
noncomputable def forLoop (kp : Keep) (bind : Env → PV → Option Env) (b : Env → PH → RS) : List PV → Env → PH → RS
  | [], ρ, h => if zbn kp h then .nx ρ h else .no
  | x :: xs, ρ, h => if zbn kp h then (match bind ρ x with | some ρ1 => (b ρ1 h).turn (forLoop kp bind b xs) | none => .no) else .no
def zbj (t : Env → PH → R Bool) (b : Env → PH → RS) : Nat → Env → PH → RS
  | 0, _, _ => .no
  | n + 1, ρ, h => (t ρ h).st ρ fun c h1 => if c then (b ρ h1).turn (zbj t b n) else .nx ρ h1
theorem whileN_up {t : Env → PH → R Bool} {b : Env → PH → RS} : ∀ (n : Nat) (ρ : Env) (h : PH), zbj t b n ρ h ≠ .no → zbj t b (n + 1) ρ h = zbj t b n ρ h := by
  intro n
  induction n with
  | zero => intro ρ h q; exact absurd rfl q
  | succ n ih =>
    intro ρ h q
    show (t ρ h).st ρ (fun c h1 => if c then (b ρ h1).turn (zbj t b (n + 1)) else .nx ρ h1) = (t ρ h).st ρ fun c h1 => if c then (b ρ h1).turn (zbj t b n) else .nx ρ h1
    have q' : ((t ρ h).st ρ fun c h1 => if c then (b ρ h1).turn (zbj t b n) else .nx ρ h1) ≠ .no := q
    cases e : t ρ h with
    | no => rfl
    | ex x h1 => rfl
    | ok c h1 =>
      rw [e] at q'
      simp only [R.st_ok] at q' ⊢
      cases c with
      | false => rfl
      | true =>
        simp only [if_true] at q' ⊢
        cases e2 : b ρ h1 with
        | nx ρ2 h2 => rw [e2] at q'; exact ih ρ2 h2 q'
        | ct ρ2 h2 => rw [e2] at q'; exact ih ρ2 h2 q'
        | bk ρ2 h2 => rfl
        | rt v h2 => rfl
        | ex x ρ2 h2 => rfl
        | no => rfl
theorem whileN_le {t : Env → PH → R Bool} {b : Env → PH → RS} {m n : Nat} {ρ : Env} {h : PH} (hmn : m ≤ n) (q : zbj t b m ρ h ≠ .no) : zbj t b n ρ h = zbj t b m ρ h := by
  induction hmn with
  | refl => rfl
  | step _ ih => rw [whileN_up _ _ _ (by rw [ih]; exact q), ih]
open Classical in
noncomputable def whileF (t : Env → PH → R Bool) (b : Env → PH → RS) (ρ : Env) (h : PH) : RS :=
  if q : ∃ n, zbj t b n ρ h ≠ .no then zbj t b q.choose ρ h else .no
theorem whileF_of {t : Env → PH → R Bool} {b : Env → PH → RS} {n : Nat} {ρ : Env} {h : PH} (q : zbj t b n ρ h ≠ .no) : whileF t b ρ h = zbj t b n ρ h := by
  unfold whileF
  have q' : ∃ n, zbj t b n ρ h ≠ .no := ⟨n, q⟩
  rw [dif_pos q']
  rcases Nat.le_total n q'.choose with z | z
  · exact whileN_le z q
  · exact (whileN_le z q'.choose_spec).symm
theorem whileF_some {t : Env → PH → R Bool} {b : Env → PH → RS} {ρ : Env} {h : PH} (q : whileF t b ρ h ≠ .no) : ∃ n, zbj t b n ρ h ≠ .no ∧ whileF t b ρ h = zbj t b n ρ h := by
  by_cases q' : ∃ n, zbj t b n ρ h ≠ .no
  · obtain ⟨n, e⟩ := q'
    exact ⟨n, e, whileF_of e⟩
  · exfalso
    apply q
    unfold whileF
    rw [dif_neg q']
/-- a while, one turn -/
theorem whileF_eq (t : Env → PH → R Bool) (b : Env → PH → RS) (ρ : Env) (h : PH) : whileF t b ρ h = (t ρ h).st ρ fun c h1 => if c then (b ρ h1).turn (whileF t b) else .nx ρ h1 := by
  by_cases q : ((t ρ h).st ρ fun c h1 => if c then (b ρ h1).turn (whileF t b) else .nx ρ h1) = .no
  · rw [q]
    by_cases z : whileF t b ρ h = .no
    · exact z
    · exfalso
      obtain ⟨n, e1, e2⟩ := whileF_some z
      cases n with
      | zero => exact e1 rfl
      | succ n =>
        apply e1
        show ((t ρ h).st ρ fun c h1 => if c then (b ρ h1).turn (zbj t b n) else .nx ρ h1) = .no
        cases e : t ρ h with
        | no => rfl
        | ex x h1 => rw [e] at q; cases q
        | ok c h1 =>
          rw [e] at q
          simp only [R.st_ok] at q ⊢
          cases c with
          | false => simp at q
          | true =>
            simp only [if_true] at q ⊢
            cases e3 : b ρ h1 with
            | nx ρ2 h2 =>
              rw [e3] at q
              by_cases w : zbj t b n ρ2 h2 = .no
              · exact w
              · have := whileF_of w
                show zbj t b n ρ2 h2 = .no
                rw [← this]
                exact q
            | ct ρ2 h2 =>
              rw [e3] at q
              by_cases w : zbj t b n ρ2 h2 = .no
              · exact w
              · have := whileF_of w
                show zbj t b n ρ2 h2 = .no
                rw [← this]
                exact q
            | bk ρ2 h2 => rw [e3] at q; cases q
            | rt v h2 => rw [e3] at q; cases q
            | ex x ρ2 h2 => rw [e3] at q; cases q
            | no => rfl
  · have key : ∃ n, zbj t b n ρ h = (t ρ h).st ρ fun c h1 => if c then (b ρ h1).turn (whileF t b) else .nx ρ h1 := by
      cases e : t ρ h with
      | no => rw [e] at q; exact absurd rfl q
      | ex x h1 => exact ⟨1, by show (t ρ h).st ρ _ = _; rw [e]; rfl⟩
      | ok c h1 =>
        rw [e] at q
        simp only [R.st_ok] at q ⊢
        cases c with
        | false => exact ⟨1, by show (t ρ h).st ρ _ = _; rw [e]; rfl⟩
        | true =>
          simp only [if_true] at q ⊢
          cases e3 : b ρ h1 with
          | nx ρ2 h2 =>
            rw [e3] at q
            obtain ⟨n, _, e5⟩ := whileF_some (show whileF t b ρ2 h2 ≠ .no from q)
            exact ⟨n + 1, by show (t ρ h).st ρ _ = _; rw [e]; simp only [R.st_ok, if_true]; rw [e3]; exact e5.symm⟩
          | ct ρ2 h2 =>
            rw [e3] at q
            obtain ⟨n, _, e5⟩ := whileF_some (show whileF t b ρ2 h2 ≠ .no from q)
            exact ⟨n + 1, by show (t ρ h).st ρ _ = _; rw [e]; simp only [R.st_ok, if_true]; rw [e3]; exact e5.symm⟩
          | bk ρ2 h2 => exact ⟨1, by show (t ρ h).st ρ _ = _; rw [e]; simp only [R.st_ok, if_true]; rw [e3]; rfl⟩
          | rt v h2 => exact ⟨1, by show (t ρ h).st ρ _ = _; rw [e]; simp only [R.st_ok, if_true]; rw [e3]; rfl⟩
          | ex x ρ2 h2 => exact ⟨1, by show (t ρ h).st ρ _ = _; rw [e]; simp only [R.st_ok, if_true]; rw [e3]; rfl⟩
          | no => rw [e3] at q; exact absurd rfl q
    obtain ⟨n, e⟩ := key
    rw [← e] at q ⊢
    exact whileF_of q
abbrev Calls := Nat → List PV → PH → R PV
/-- a value as it is, or (t) its truth -/
def fin (t : Bool) (m : R PV) : R PV := if t then m.bind fun x h => ofO ((truthy h x).map .bl) h else m
def asB (m : R PV) : R Bool := m.bind fun x h => match x with | .bl b => .ok b h | _ => .no
mutual
/-- t: asked as a test -/
noncomputable def evG (C : Calls) : E → Bool → Env → PH → R PV
  | .var i, t, ρ, h => fin t (ofO (ρ.get i) h)
  | .lit v, t, _, h => fin t (.ok v h)
  | .bin op a b, t, ρ, h => fin t ((evG C a false ρ h).bind fun x h1 => (evG C b false ρ h1).bind fun y h2 => binop op x y h2)
  | .neg a, t, ρ, h => fin t ((evG C a false ρ h).bind fun x h1 => match x with | .int i => .ok (.int (-i)) h1 | _ => .no)
  | .nt a, t, ρ, h => (evG C a t ρ h).bind fun x h1 => match x with | .bl b => .ok (.bl (!b)) h1 | _ => .no
  | .band a b, t, ρ, h => (evG C a t ρ h).bind fun x h1 => match x with | .bl true => evG C b t ρ h1 | .bl false => .ok (.bl false) h1 | _ => .no
  | .bor a b, t, ρ, h => (evG C a t ρ h).bind fun x h1 => match x with | .bl false => evG C b t ρ h1 | .bl true => .ok (.bl true) h1 | _ => .no
  | .cmp op a b, t, ρ, h => fin t ((evG C a false ρ h).bind fun x h1 => (evG C b false ρ h1).bind fun y h2 => zbd op x y h2)
  | .ite c a b, t, ρ, h => fin t ((evG C c true ρ h).bind fun x h1 => match x with | .bl true => evG C a false ρ h1 | .bl false => evG C b false ρ h1 | _ => .no)
  | .tup es, t, ρ, h => fin t ((evGs C es ρ h).bind fun l h1 => tupO l h1)
  | .lst es, t, ρ, h => fin t ((evGs C es ρ h).bind fun l h1 => alloc l h1)
  | .idx a i, t, ρ, h => fin t ((evG C a false ρ h).bind fun x h1 => (evG C i false ρ h1).bind fun y h2 => zcc x y h2)
  | .slc a lo hi, t, ρ, h => fin t ((evG C a false ρ h).bind fun x h1 => (evGo C lo ρ h1).bind fun l h2 => (evGo C hi ρ h2).bind fun u h3 => slcop x l u h3)
  | .call f es ds, t, ρ, h => fin t ((evGs C es ρ h).bind fun l h1 => C f (l ++ ds) h1)
  | .callk f es ix ds, t, ρ, h => fin t ((evGs C es ρ h).bind fun l h1 => match mapO (fun i => l[i]?) ix with | some l' => C f (l' ++ ds) h1 | none => .no)
  | .bi b es, t, ρ, h => fin t ((evGs C es ρ h).bind fun l h1 => biF b l h1)
  | .mth m o es, t, ρ, h => fin t ((evG C o false ρ h).bind fun x h1 => if tyOf h1 x = some m.ty then (evGs C es ρ h1).bind fun l h2 => mtF m x l h2 else .no)
  | .srt a, t, ρ, h => fin t ((evG C a false ρ h).bind fun x h1 => srtop x h1)
  | .dct es, t, ρ, h => fin t ((evGs C es ρ h).bind fun l h1 => match pairUp l with | some l => allocD (zbv [] l) h1 | none => .no)
  | .dcomp ke ve tg one k its cond own, t, ρ, h => fin t ((evGs C its ρ h).bind fun l h1 =>
      match zcm k l h1 with
      | some (items, kp) => (za5 kp (fun x => zbo (zbi ρ own) tg one x) (fun ρ1 h2 => (evGc C cond ρ1 h2).calm) (fun ρ1 h2 => (evG C ke false ρ1 h2).calm) (fun ρ1 h2 => (evG C ve false ρ1 h2).calm) items [] h1).bind fun l h2 => allocD l h2
      | none => .no)
  | .firsts j, t, ρ, h => fin t (firstsP (ρ.get j) h)
  | .remark d near far, t, ρ, h => fin t (remarkP (ρ.get d) (ρ.get near) (ρ.get far) h)
  | .comp elt tg one k its cond own, t, ρ, h => fin t ((evGs C its ρ h).bind fun l h1 =>
      match zcm k l h1 with
      | some (items, kp) => (compLoop kp (fun x => zbo (zbi ρ own) tg one x) (fun ρ1 h2 => (evGc C cond ρ1 h2).calm) (fun ρ1 h2 => (evG C elt false ρ1 h2).calm) items [] h1).bind fun l h2 => alloc l h2
      | none => .no)
  | .comp2 elt tg one k its tg1 one1 k1 its1 own, t, ρ, h => fin t ((evGs C its ρ h).bind fun l h1 =>
      match zcm k l h1 with
      | some (items, kp) => (comp2Loop kp (fun x => zbo (zbi ρ own) tg one x) (fun ρ1 acc h2 => (evGs C its1 ρ1 h2).calm.bind fun l1 h3 => match zcm k1 l1 h3 with
          | some (items1, kp1) => compLoop kp1 (fun y => zbo (zbi ρ1 tg1) tg1 one1 y) (fun _ h4 => .ok true h4) (fun ρ2 h4 => (evG C elt false ρ2 h4).calm) items1 acc h3
          | none => .no) items [] h1).bind fun l h2 => alloc l h2
      | none => .no)
  | .stp a s, t, ρ, h => fin t ((evG C a false ρ h).bind fun x h1 => (evG C s false ρ h1).bind fun st h2 => stpop x st h2)
  | .rev a, t, ρ, h => fin t ((evG C a false ρ h).bind fun x h1 => revop x h1)
  | .xat a f c, t, ρ, h => fin t ((evG C a false ρ h).bind fun x h1 => xatop x f c h1)
  | .fld c f a, t, ρ, h => fin t ((evG C a false ρ h).bind fun x h1 => fldop c f x h1)
  | .meth c m k o es ds, t, ρ, h => fin t ((evG C o false ρ h).bind fun x h1 => if insB c m h1 x then (evGs C es ρ h1).bind fun l h2 => C k (x :: (l ++ ds)) h2 else .no)
  | .make c k es ds, t, ρ, h => fin t ((evGs C es ρ h).bind fun l h1 => (C k (.ref h1.length :: (l ++ ds)) (h1 ++ [.obj c []])).bind fun v h2 => isNew v h1.length h2)
  | .disp tb w es, t, ρ, h => fin t ((evG C w false ρ h).bind fun x h1 => match x with
      | .str s => (match tb.lookup s with | some k => (evGs C es ρ h1).bind fun l h2 => C k l h2 | none => .no)
      | _ => .no)
  | .chain op op2 a b c, t, ρ, h => fin t ((evG C a false ρ h).bind fun x h1 => (evG C b false ρ h1).bind fun y h2 => (zbd op x y h2).bind fun k h3 => match k with
      | .bl true => (evG C c false ρ h3).bind fun z h4 => zbd op2 y z h4
      | .bl false => .ok (.bl false) h3
      | _ => .no)
  | .dctc l, t, _, h => fin t (allocD l h)
  | .orv a b, t, ρ, h => fin t ((evG C a false ρ h).bind fun x h1 => match truthy h1 x with | some true => .ok x h1 | some false => evG C b false ρ h1 | none => .no)
  | .oeq c k ne a b, t, ρ, h => fin t ((evG C a false ρ h).bind fun x h1 => (evG C b false ρ h1).bind fun y h2 => if insB c "__eq__" h2 x then (C k [x, y] h2).bind fun v h3 => match v with
      | .bl r => .ok (.bl (if ne then !r else r)) h3
      | _ => .no
    else .no)
noncomputable def evGs (C : Calls) : List E → Env → PH → R (List PV)
  | [], _, h => .ok [] h
  | e :: es, ρ, h => (evG C e false ρ h).bind fun x h1 => (evGs C es ρ h1).bind fun l h2 => .ok (x :: l) h2
noncomputable def evGo (C : Calls) : Option E → Env → PH → R (Option Int)
  | none, _, h => .ok none h
  | some e, ρ, h => (evG C e false ρ h).bind fun x h1 => match x with | .int i => .ok (some i) h1 | _ => .no
noncomputable def evGc (C : Calls) : Option E → Env → PH → R Bool
  | none, _, h => .ok true h
  | some e, ρ, h => asB (evG C e true ρ h)
end
noncomputable abbrev evE (C : Calls) (e : E) : Env → PH → R PV := evG C e false
noncomputable def evT (C : Calls) (e : E) (ρ : Env) (h : PH) : R Bool := asB (evG C e true ρ h)
/-- a op= b: ints and texts -/
def iopF (op : Operator) (a b : PV) (h : PH) : R PV := match op, a, b with
  | .Add, .int i, .int j => .ok (.int (i + j)) h
  | .Sub, .int i, .int j => .ok (.int (i - j)) h
  | .Add, .str x, .str y => if za3 (x.length + y.length) then .ok (.str (x ++ y)) h else .no
  | _, _, _ => .no
/-- o[i] of a list of the heap -/
def getL (a i : PV) (h : PH) : R PV := match a, i with
  | .ref n, .int i => if 0 ≤ i then (match h[n]? with | some (.lst l) => ofO l[i.toNat]? h | _ => .no) else .no
  | _, _ => .no
/-- a target is stored -/
noncomputable def stTg (C : Calls) : Tgt → PV → Env → PH → RS
  | .nm i, v, ρ, h => .nx (ρ.set i (some v)) h
  | .tup is, .tup l, ρ, h => match zbx ρ is l with | some ρ' => .nx ρ' h | none => .no
  | .tup _, _, _, _ => .no
  | .unl is, .ref n, ρ, h => match h[n]? with | some (.lst l) => (match zbx ρ is l with | some ρ' => .nx ρ' h | none => .no) | _ => .no
  | .unl _, _, _, _ => .no
  | .sub o i, v, ρ, h => (evE C o ρ h).st ρ fun x h1 => (evE C i ρ h1).st ρ fun y h2 => match setop x y v h2 with | some h3 => .nx ρ h3 | none => .no
  | .ust is, .tup l, ρ, h => if is.length ≤ l.length + 1 ∧ l.length ≤ 1000 then (match is.getLast? with
      | some j => (match zbx ρ is.dropLast (l.take (is.length - 1)) with
        | some ρ' => .nx (ρ'.set j (some (.ref h.length))) (h ++ [.lst (l.drop (is.length - 1))])
        | none => .no)
      | none => .no) else .no
  | .ust _, _, _, _ => .no
  | .fld c f o, v, ρ, h => (evE C o ρ h).st ρ fun x h1 => match setfld c f x v h1 with | some h2 => .nx ρ h2 | none => .no
/-- no handled exception is left behind -/
def coolE (ρ ρ1 : Env) : Prop := ∀ (n : Nat) (p : PV), ρ1[n]? = some (some p) → ρ[n]? = some (some p) ∨ coldV p = true
def coolH (h h1 : PH) : Prop := ∀ (n : Nat) (o : PO), h1[n]? = some o → h[n]? = some o ∨ coldO o = true
def setO (ρ : Env) (i : Option Nat) (v : Option PV) : Env := match i with | some i => ρ.set i v | none => ρ
open Classical in
noncomputable def coolS (i : Option Nat) (ρ : Env) (h : PH) : RS → RS
  | .nx ρ1 h1 => if coolE ρ (setO ρ1 i none) ∧ coolH h h1 then .nx (setO ρ1 i none) h1 else .no
  | .rt v h1 => if coldV v = true ∧ coolH h h1 then .rt v h1 else .no
  | _ => .no
mutual
noncomputable def exS (C : Calls) : S → Env → PH → RS
  | .asg g e, ρ, h => (evE C e ρ h).st ρ fun v h1 => stTg C g v ρ h1
  | .aug i op e, ρ, h => match ρ.get i with
    | some x => (evE C e ρ h).st ρ fun y h1 => (iopF op x y h1).st ρ fun z h2 => .nx (ρ.set i (some z)) h2
    | none => .no
  | .augs o i op e, ρ, h => (evE C o ρ h).st ρ fun ov h1 => (evE C i ρ h1).st ρ fun iv h2 => (getL ov iv h2).st ρ fun x h3 => (evE C e ρ h3).st ρ fun y h4 => (iopF op x y h4).st ρ fun z h5 => match setop ov iv z h5 with | some h6 => .nx ρ h6 | none => .no
  | .augf c f o op e, ρ, h => (evE C o ρ h).st ρ fun ov h1 => (fldop c f ov h1).st ρ fun x h2 => (evE C e ρ h2).st ρ fun y h3 => (iopF op x y h3).st ρ fun z h4 => match setfld c f ov z h4 with | some h5 => .nx ρ h5 | none => .no
  | .ifs t a b, ρ, h => (evT C t ρ h).st ρ fun c h1 => if c then exSs C a ρ h1 else exSs C b ρ h1
  | .whl t b, ρ, h => whileF (fun ρ h => evT C t ρ h) (fun ρ h => exSs C b ρ h) ρ h
  | .fr tg one k its b, ρ, h => (evGs C its ρ h).st ρ fun l h1 => match zcm k l h1 with
      | some (items, kp) => forLoop kp (fun ρ x => zbo ρ tg one x) (fun ρ h => exSs C b ρ h) items ρ h1
      | none => .no
  | .ret e, ρ, h => (evE C e ρ h).st ρ fun v h1 => .rt v h1
  | .ret0, _, h => .rt .non h
  | .ex e, ρ, h => (evE C e ρ h).st ρ fun _ h1 => .nx ρ h1
  | .pass, ρ, h => .nx ρ h
  | .brk, ρ, h => .bk ρ h
  | .cont, ρ, h => .ct ρ h
  | .raise x ns es, ρ, h => (evGs C es ρ h).st ρ fun l h1 => .ex ⟨x, ns, l.reverse⟩ ρ h1
  | .tryN b c xs s, ρ, h => match exSs C b ρ h with
    | .ex x ρ1 h1 => if x.cls ∈ xs then (if x.cls = c then exSs C s ρ1 h1 else .ex x ρ1 h1) else .no
    | r => r
  | .tryA b c xs fi i j lit ns fs exs, ρ, h => match exSs C b ρ h with
    | .ex x ρ1 h1 => if x.cls ∈ xs then (if x.cls = c then (match C fi [.xc x.cls [] []] [], mapO (fun f => (x.ns.zip x.vs).lookup f) fs with
      | .ok (.bl true) _, some vs => if x.ns = ns ∧ i < ρ1.length then .nx ((ρ1.set j (some (.tup (.str lit :: vs ++ exs)))).set i none) h1 else .no
      | _, _ => .no) else .ex x ρ1 h1) else .no
    | r => r
  | .hole, _, _ => .no
  | .hd _ _ _, _, _ => .no
  | .tryH b xs hs, ρ, h => match exSs C b ρ h with
    | .ex x ρ1 h1 => if x.cls ∈ xs then exH C hs x ρ1 h1 else .no
    | r => r
noncomputable def exH (C : Calls) : List S → Exn → Env → PH → RS
  | [], x, ρ, h => .ex x ρ h
  | .hd c i b :: r, x, ρ, h => if hitX x.cls c then coolS i ρ h (exSs C b (setO ρ i (some (.xc x.cls x.ns x.vs))) h) else exH C r x ρ h
  | _, _, _, _ => .no
noncomputable def exSs (C : Calls) : List S → Env → PH → RS
  | [], ρ, h => .nx ρ h
  | s :: r, ρ, h => (exS C s ρ h).seq fun ρ1 h1 => exSs C r ρ1 h1
end
/-- a def's body at its arguments -/
def zas (ns : Nat) (vs : List PV) : Env := vs.map some ++ List.replicate (ns - vs.length) none
def RS.toR : RS → R PV
  | .nx _ h => .ok .non h
  | .rt v h => .ok v h
  | .ex x _ h => .ex x h
  | _ => .no
noncomputable def runFn (C : Calls) (f : Fn) (vs : List PV) (h : PH) : R PV := if vs.length = f.np then (exSs C f.body (zas f.ns vs) h).toR else .no
noncomputable def call (tbl : Nat → Fn) : Nat → Calls
  | 0 => fun _ _ _ => .no
  | k + 1 => fun f vs h => runFn (call tbl k) (tbl f) vs h
end Sb
namespace Sb
open PySem L2
/-- what the lying of plain values leans on: the written part, the exceptions that are handled -/
structure ZZ where
  K : PySem.W.Frag
  pn : List (Addr × Obj)
  P : Program
  w : World
def hotPn (X : Cx) : List (Addr × Obj) := match X.calm with | true => [] | false => X.pn.take 1
abbrev zOf (X : Cx) : ZZ := ⟨X.K, hotPn X, X.prog, X.w⟩
theorem z_calm {X : Cx} (h : X.calm = true) : zOf X = ⟨X.K, [], X.prog, X.w⟩ := by
  unfold zOf hotPn
  rw [h]
/-- a list, a tuple of the written part -/
def KL (K : PySem.W.Frag) (a : Addr) (xs : List V) : Prop := ∃ (o : Obj) (its : Array Value) (n : Nat), K.lookup a = some o ∧ o.cls = .type "list" ∧ o.dict = none ∧ o.data = .seq its n ∧ its.size ≤ sizeLine ∧ Vals xs its.toList
def KT (K : PySem.W.Frag) (a : Addr) (xs : List V) : Prop := ∃ (o : Obj) (its : Array Value) (n : Nat), K.lookup a = some o ∧ o.cls = .type "tuple" ∧ o.data = .seq its n ∧ its.size ≤ sizeLine ∧ Vals xs its.toList
def LstAt (K : ZZ) (φ : List Addr) (H : Hp) (a : Addr) (xs : List V) : Prop := ((∃ o, H a = some (.frz o (.lst xs))) ∧ a ∉ φ) ∨ KL K.K a xs
def TupAt (K : ZZ) (φ : List Addr) (H : Hp) (a : Addr) (xs : List V) : Prop := (Rd H a (.tup xs) ∧ a ∉ φ) ∨ KT K.K a xs
theorem LstAt.sq {K : ZZ} {φ : List Addr} {H : Hp} {a : Addr} {xs : List V} (h : LstAt K φ H a xs) : SqL K.K H a xs := h.elim (fun z => .inl (.inr z.1)) .inr
theorem TupAt.sq {K : ZZ} {φ : List Addr} {H : Hp} {a : Addr} {xs : List V} (h : TupAt K φ H a xs) : SqT K.K H a xs := h.elim (fun z => .inl z.1) .inr
mutual
def RV (K : ZZ) (φ : List Addr) (H : Hp) : PV → V → Prop
  | .non, v => v = .non
  | .bl b, v => v = .bl b
  | .int i, v => v = .int i
  | .str x, v => v = .str x
  | .ty t, v => v = .ty t.nm
  | .ref n, v => ∃ a, v = .ref a ∧ φ[n]? = some a
  | .tup l, v => ∃ a vs, v = .ref a ∧ TupAt K φ H a vs ∧ RVs K φ H l vs
  | .cl l, v => ∃ a vs, v = .ref a ∧ LstAt K φ H a vs ∧ RVs K φ H l vs
  | .cls x, v => v = if x = "ValueError" then .ty "ValueError" else .ref (He.ga K.K x)
  | .xc x ns l, v => ∃ a oe, v = .ref a ∧ (a, oe) ∈ K.pn ∧ oe.cls = .ref (He.ga K.K x) ∧ (∃ vs, oe.data = .fields vs) ∧ ((oe.dict = none ∧ ns = []) ∨ ∃ dd fs us, oe.dict = some dd ∧ H dd = some (.xd fs) ∧ dd ∉ φ ∧ (ns = [] ∨ (fs.map (·.1) = ns ∧ fs.map (·.2) = us)) ∧ RVs K φ H l us)
  | .ste l, v => ∃ a, v = .ref a ∧ H a = some (SetK K.P K.w a (fun k => l.any fun j => decide (j = k)) l.length) ∧ a ∉ φ ∧ l.Nodup
def RVs (K : ZZ) (φ : List Addr) (H : Hp) : List PV → List V → Prop
  | [], vs => vs = []
  | p :: ps, vs => ∃ v r, vs = v :: r ∧ RV K φ H p v ∧ RVs K φ H ps r
end
def RO (K : ZZ) (φ : List Addr) (H : Hp) : PO → HO → Prop
  | .lst l, o => ∃ vs, o = .lst vs ∧ RVs K φ H l vs
  | .dct l, o => ∃ kvs, o = .dK kvs ∧ kvs.map (·.1) = l.map (·.1) ∧ RVs K φ H (l.map (·.2)) (kvs.map (·.2))
  | .obj c fs, o => ∃ dx kvs, o = .ins (He.ga K.K c) dx kvs ∧ kvs.map (·.1) = fs.map (·.1) ∧ RVs K φ H (fs.map (·.2)) (kvs.map (·.2))
/-- the plain heap h lies at the addresses φ -/
structure Sim (K : ZZ) (φ : List Addr) (h : PH) (H : Hp) : Prop where
  len : φ.length = h.length
  nd : φ.Nodup
  ob : ∀ (n : Nat) (o : PO), h[n]? = some o → ∃ a ho, φ[n]? = some a ∧ H a = some ho ∧ RO K φ H o ho
  tb : LamX.Tabs (tabsOf K.K) H
/-- what may have changed: the objects at φ, and new ones -/
structure Ext (φ φ' : List Addr) (H H' : Hp) : Prop where
  pre : ∃ t, φ' = φ ++ t
  keep : ∀ a o, H a = some o → a ∉ φ → (∀ ps, o ≠ .tbl ps) → H' a = some o
  fresh : ∀ a, a ∈ φ' → a ∉ φ → ∀ o, H a = some o → ∃ ps, o = .tbl ps
theorem Ext.refl (φ : List Addr) (H : Hp) : Ext φ φ H H := ⟨⟨[], by simp⟩, fun _ _ e _ _ => e, fun _ h n => absurd h n⟩
theorem Ext.mem {φ φ' : List Addr} {H H' : Hp} (x : Ext φ φ' H H') {a : Addr} (h : a ∈ φ) : a ∈ φ' := by
  obtain ⟨t, e⟩ := x.pre
  rw [e]
  exact List.mem_append_left _ h
theorem Ext.trans {φ φ1 φ2 : List Addr} {H H1 H2 : Hp} (x : Ext φ φ1 H H1) (y : Ext φ1 φ2 H1 H2) : Ext φ φ2 H H2 := by
  obtain ⟨t, e⟩ := x.pre
  obtain ⟨u, e'⟩ := y.pre
  refine ⟨⟨t ++ u, by rw [e', e, List.append_assoc]⟩, fun a o q n nt => ?_, fun a h n o q => ?_⟩
  · refine y.keep a o (x.keep a o q n nt) (fun z => ?_) nt
    obtain ⟨ps, e⟩ := x.fresh a z n o q
    exact nt ps e
  · by_cases z : a ∈ φ1
    · exact x.fresh a z n o q
    · by_cases nt : ∀ ps, o ≠ .tbl ps
      · exact y.fresh a h z o (x.keep a o q n nt)
      · obtain ⟨ps, ep⟩ := Classical.not_forall.mp nt
        exact ⟨ps, Classical.not_not.mp ep⟩
theorem Ext.at {φ φ' : List Addr} {H H' : Hp} (x : Ext φ φ' H H') {n : Nat} {a : Addr} (h : φ[n]? = some a) : φ'[n]? = some a := by
  obtain ⟨t, e⟩ := x.pre
  rw [e, List.getElem?_append_left (List.getElem?_eq_some_iff.mp h).1]
  exact h
/-- what plain values lean on: tuples and locked things stay, places stay -/
def isFix : HO → Bool
  | .tup _ => true
  | .frz _ _ => true
  | .xd _ => true
  | .ext _ => true
  | _ => false
structure Kp (φ φ' : List Addr) (H H' : Hp) : Prop where
  pl : ∀ (n : Nat) (a : Addr), φ[n]? = some a → φ'[n]? = some a
  fx : ∀ a o, isFix o = true → H a = some o → a ∉ φ → H' a = some o ∧ a ∉ φ'
theorem fix_ntbl {o : HO} (f : isFix o = true) : ∀ ps, o ≠ .tbl ps := fun ps z => by
  subst z
  cases f
theorem Ext.kp {φ φ' : List Addr} {H H' : Hp} (x : Ext φ φ' H H') : Kp φ φ' H H' := ⟨fun _ _ => x.at, fun a o f e n => ⟨x.keep a o e n (fix_ntbl f), fun m => by
  obtain ⟨ps, z⟩ := x.fresh a m n o e
  exact fix_ntbl f ps z⟩⟩
section
variable {K : ZZ} {φ φ' : List Addr} {H H' : Hp}
theorem TupAt.monoK {a : Addr} {xs : List V} (x : Kp φ φ' H H') (h : TupAt K φ H a xs) : TupAt K φ' H' a xs := by
  rcases h with ⟨q | ⟨o, q⟩, n⟩ | h
  · exact .inl ⟨.inl (x.fx a _ rfl q n).1, (x.fx a _ rfl q n).2⟩
  · exact .inl ⟨.inr ⟨o, (x.fx a _ rfl q n).1⟩, (x.fx a _ rfl q n).2⟩
  · exact .inr h
theorem LstAt.monoK {a : Addr} {xs : List V} (x : Kp φ φ' H H') (h : LstAt K φ H a xs) : LstAt K φ' H' a xs := by
  rcases h with ⟨⟨o, q⟩, n⟩ | h
  · exact .inl ⟨⟨o, (x.fx a _ rfl q n).1⟩, (x.fx a _ rfl q n).2⟩
  · exact .inr h
theorem TupAt.mono {a : Addr} {xs : List V} (x : Ext φ φ' H H') (h : TupAt K φ H a xs) : TupAt K φ' H' a xs := h.monoK x.kp
theorem LstAt.mono {a : Addr} {xs : List V} (x : Ext φ φ' H H') (h : LstAt K φ H a xs) : LstAt K φ' H' a xs := h.monoK x.kp
mutual
theorem RV.monoK (x : Kp φ φ' H H') : ∀ {p : PV} {v : V}, RV K φ H p v → RV K φ' H' p v
  | .non, _, h => h
  | .bl _, _, h => h
  | .int _, _, h => h
  | .str _, _, h => h
  | .ty _, _, h => h
  | .ref n, v, h => by
    obtain ⟨a, e, q⟩ := h
    exact ⟨a, e, x.pl n a q⟩
  | .tup l, v, h => by
    obtain ⟨a, vs, e, q, r⟩ := h
    exact ⟨a, vs, e, q.monoK x, RVs.monoK x r⟩
  | .cl l, v, h => by
    obtain ⟨a, vs, e, q, r⟩ := h
    exact ⟨a, vs, e, q.monoK x, RVs.monoK x r⟩
  | .cls _, _, h => h
  | .xc _ _ l, v, h => by
    obtain ⟨a, oe, e, q, c, n, d⟩ := h
    refine ⟨a, oe, e, q, c, n, d.imp id ?_⟩
    rintro ⟨dd, fs, us, d1, d2, d3, d4, d5⟩
    exact ⟨dd, fs, us, d1, (x.fx dd _ rfl d2 d3).1, (x.fx dd _ rfl d2 d3).2, d4, RVs.monoK x d5⟩
  | .ste l, v, h => by
    obtain ⟨a, e, q, n, d⟩ := h
    exact ⟨a, e, (x.fx a _ rfl q n).1, (x.fx a _ rfl q n).2, d⟩
theorem RVs.monoK (x : Kp φ φ' H H') : ∀ {p : List PV} {v : List V}, RVs K φ H p v → RVs K φ' H' p v
  | [], _, h => h
  | p :: ps, vs, h => by
    obtain ⟨v, r, e, q, s⟩ := h
    exact ⟨v, r, e, RV.monoK x q, RVs.monoK x s⟩
end
theorem RV.mono (x : Ext φ φ' H H') {p : PV} {v : V} (h : RV K φ H p v) : RV K φ' H' p v := h.monoK x.kp
theorem RVs.mono (x : Ext φ φ' H H') {p : List PV} {v : List V} (h : RVs K φ H p v) : RVs K φ' H' p v := h.monoK x.kp
theorem RO.monoK (x : Kp φ φ' H H') {o : PO} {ho : HO} (h : RO K φ H o ho) : RO K φ' H' o ho := by
  cases o with
  | lst l =>
    obtain ⟨vs, e, r⟩ := h
    exact ⟨vs, e, r.monoK x⟩
  | dct l =>
    obtain ⟨kvs, e, k, r⟩ := h
    exact ⟨kvs, e, k, r.monoK x⟩
  | obj c fs =>
    obtain ⟨dx, kvs, e, k, r⟩ := h
    exact ⟨dx, kvs, e, k, r.monoK x⟩
theorem RO.mono (x : Ext φ φ' H H') {o : PO} {ho : HO} (h : RO K φ H o ho) : RO K φ' H' o ho := h.monoK x.kp
theorem RVs.nil : RVs K φ H [] [] := rfl
theorem RVs.cons {p : PV} {v : V} {ps : List PV} {vs : List V} (h : RV K φ H p v) (r : RVs K φ H ps vs) : RVs K φ H (p :: ps) (v :: vs) := ⟨v, vs, rfl, h, r⟩
theorem RVs.length : ∀ {ps : List PV} {vs : List V}, RVs K φ H ps vs → ps.length = vs.length
  | [], vs, h => by
    have e : vs = [] := h
    rw [e]
    rfl
  | p :: ps, vs, h => by
    obtain ⟨v, r, e, _, s⟩ := h
    rw [e, List.length_cons, List.length_cons, RVs.length s]
theorem RVs.get : ∀ {ps : List PV} {vs : List V} {i : Nat} {p : PV}, RVs K φ H ps vs → ps[i]? = some p → ∃ v, vs[i]? = some v ∧ RV K φ H p v
  | [], _, _, _, _, e => by simp at e
  | p :: ps, vs, 0, q, h, e => by
    obtain ⟨v, r, e', s, _⟩ := h
    simp at e
    subst e
    exact ⟨v, by rw [e']; rfl, s⟩
  | p :: ps, vs, i + 1, q, h, e => by
    obtain ⟨v, r, e', _, s⟩ := h
    obtain ⟨w, f, g⟩ := RVs.get (i := i) s (by simpa using e)
    exact ⟨w, by rw [e']; simpa using f, g⟩
theorem RVs.append : ∀ {ps qs : List PV} {vs ws : List V}, RVs K φ H ps vs → RVs K φ H qs ws → RVs K φ H (ps ++ qs) (vs ++ ws)
  | [], _, vs, _, h, r => by
    rw [show vs = [] from h]
    exact r
  | p :: ps, qs, vs, ws, h, r => by
    obtain ⟨v, t, e, q, s⟩ := h
    rw [e]
    exact ⟨v, t ++ ws, rfl, q, RVs.append s r⟩
theorem RVs.set : ∀ {ps : List PV} {vs : List V} {p : PV} {v : V} (i : Nat), RV K φ H p v → RVs K φ H ps vs → RVs K φ H (ps.set i p) (vs.set i v)
  | [], vs, _, _, _, _, h => by
    rw [show vs = [] from h]
    exact rfl
  | q :: ps, vs, p, v, 0, hp, h => by
    obtain ⟨w, t, e, q, s⟩ := h
    rw [e]
    exact ⟨v, t, rfl, hp, s⟩
  | q :: ps, vs, p, v, i + 1, hp, h => by
    obtain ⟨w, t, e, q, s⟩ := h
    rw [e]
    exact ⟨w, t.set i v, rfl, q, RVs.set i hp s⟩
theorem RVs.erase : ∀ {ps : List PV} {vs : List V} (i : Nat), RVs K φ H ps vs → RVs K φ H (ps.eraseIdx i) (vs.eraseIdx i)
  | [], vs, _, h => by
    rw [show vs = [] from h]
    exact rfl
  | q :: ps, vs, 0, h => by
    obtain ⟨w, t, e, q, s⟩ := h
    rw [e]
    exact s
  | q :: ps, vs, i + 1, h => by
    obtain ⟨w, t, e, q, s⟩ := h
    rw [e]
    exact ⟨w, t.eraseIdx i, rfl, q, RVs.erase i s⟩
theorem RVs.take : ∀ {ps : List PV} {vs : List V} (i : Nat), RVs K φ H ps vs → RVs K φ H (ps.take i) (vs.take i)
  | _, _, 0, _ => by rw [List.take_zero, List.take_zero]; exact rfl
  | [], vs, i + 1, h => by
    rw [show vs = [] from h]
    exact rfl
  | q :: ps, vs, i + 1, h => by
    obtain ⟨w, t, e, q, s⟩ := h
    rw [e]
    exact ⟨w, t.take i, rfl, q, RVs.take i s⟩
theorem RVs.drop : ∀ {ps : List PV} {vs : List V} (i : Nat), RVs K φ H ps vs → RVs K φ H (ps.drop i) (vs.drop i)
  | _, _, 0, h => h
  | [], vs, i + 1, h => by
    rw [show vs = [] from h]
    exact rfl
  | q :: ps, vs, i + 1, h => by
    obtain ⟨w, t, e, q, s⟩ := h
    rw [e]
    exact RVs.drop i s
/-- all is as it was at φ, and the plain heap the same -/
theorem Sim.mem {h : PH} (s : Sim K φ h H) {a : Addr} (m : a ∈ φ) : ∃ ho, H a = some ho := by
  obtain ⟨n, hn, e⟩ := List.mem_iff_getElem.mp m
  have hn' : n < h.length := by rw [← s.len]; exact hn
  obtain ⟨a', ho, e1, e2, _⟩ := s.ob n h[n] (List.getElem?_eq_getElem hn')
  rw [List.getElem?_eq_getElem hn] at e1
  have : a = a' := by rw [← e]; exact Option.some.inj e1
  exact ⟨ho, by rw [this]; exact e2⟩
theorem Sim.out {h : PH} (s : Sim K φ h H) {a : Addr} (n : H a = none) : a ∉ φ := fun m => by
  obtain ⟨ho, e⟩ := s.mem m
  rw [n] at e
  cases e
/-- tables and code objects stay -/
theorem tabs_keep {T : List (Addr × Str)} (k : ∀ b o, H b = some o → ((∃ ps, o = .tbl ps) ∨ ∃ f, o = .ext f) → H' b = some o) (t : LamX.Tabs T H) : LamX.Tabs T H' := fun p hp => by
  obtain ⟨ps, e1, e2, e3⟩ := t p hp
  refine ⟨ps, k _ _ e1 (.inl ⟨ps, rfl⟩), e2, fun pos cv hc => ?_⟩
  obtain ⟨c, f1, f2⟩ := e3 pos cv hc
  exact ⟨c, f1, k _ _ f2 (.inr ⟨_, rfl⟩)⟩
theorem tabs_upd {T : List (Addr × Str)} {a : Addr} {u : HO} (ha : ∀ o, H a = some o → (∀ ps, o ≠ .tbl ps) ∧ ∀ f, o ≠ .ext f) (t : LamX.Tabs T H) : LamX.Tabs T (upd H a u) := tabs_keep (fun b o e z => by
  have n : b ≠ a := fun q => by
    subst q
    obtain ⟨h1, h2⟩ := ha o e
    rcases z with ⟨ps, z⟩ | ⟨f, z⟩
    · exact h1 ps z
    · exact h2 f z
  rw [upd_ne n]
  exact e) t
/-- an object of the plain heap is no table -/
theorem RO.plain {o : PO} {ho : HO} (r : RO K φ H o ho) : (∀ ps, ho ≠ .tbl ps) ∧ ∀ f, ho ≠ .ext f := by
  cases o with
  | lst l =>
    obtain ⟨vs, e, _⟩ := r
    subst e
    exact ⟨fun _ z => (by cases z), fun _ z => (by cases z)⟩
  | dct l =>
    obtain ⟨vs, e, _⟩ := r
    subst e
    exact ⟨fun _ z => (by cases z), fun _ z => (by cases z)⟩
  | obj c fs =>
    obtain ⟨dx, kvs, e, _⟩ := r
    subst e
    exact ⟨fun _ z => (by cases z), fun _ z => (by cases z)⟩
theorem Sim.plain {h : PH} (s : Sim K φ h H) {a : Addr} (m : a ∈ φ) : ∀ o, H a = some o → (∀ ps, o ≠ .tbl ps) ∧ ∀ f, o ≠ .ext f := fun o eo => by
  obtain ⟨n, hn, e⟩ := List.mem_iff_getElem.mp m
  have hn' : n < h.length := by rw [← s.len]; exact hn
  obtain ⟨a', ho, e1, e2, r⟩ := s.ob n h[n] (List.getElem?_eq_getElem hn')
  rw [List.getElem?_eq_getElem hn] at e1
  have : a = a' := by rw [← e]; exact Option.some.inj e1
  subst this
  rw [eo] at e2
  cases e2
  exact r.plain
theorem none_plain {a : Addr} (n : H a = none) : ∀ o, H a = some o → (∀ ps, o ≠ .tbl ps) ∧ ∀ f, o ≠ .ext f := fun o e => by
  rw [n] at e
  cases e
theorem lst_plain {a : Addr} {vs : List V} (n : H a = some (.lst vs)) : ∀ o, H a = some o → (∀ ps, o ≠ .tbl ps) ∧ ∀ f, o ≠ .ext f := fun o e => by
  rw [n] at e
  cases e
  exact ⟨fun _ z => (by cases z), fun _ z => (by cases z)⟩
theorem dK_plain {a : Addr} {vs : List (Key × V)} (n : H a = some (.dK vs)) : ∀ o, H a = some o → (∀ ps, o ≠ .tbl ps) ∧ ∀ f, o ≠ .ext f := fun o e => by
  rw [n] at e
  cases e
  exact ⟨fun _ z => (by cases z), fun _ z => (by cases z)⟩
/-- a new thing that is not of the plain heap -/
theorem Ext.new {p : Addr} {o : HO} (n : H p = none) : Ext φ φ H (upd H p o) := ⟨⟨[], by simp⟩, fun a u e _ _ => by rw [upd_ne (ne_of_none e n)]; exact e, fun _ h z => absurd h z⟩
theorem Sim.new {h : PH} {p : Addr} {o : HO} (s : Sim K φ h H) (n : H p = none) : Sim K φ h (upd H p o) := ⟨s.len, s.nd, fun m u e => by
  obtain ⟨a, ho, e1, e2, r⟩ := s.ob m u e
  exact ⟨a, ho, e1, by rw [upd_ne (ne_of_none e2 n)]; exact e2, r.mono (Ext.new n)⟩, tabs_upd (none_plain n) s.tb⟩
/-- a new object of the plain heap -/
theorem Ext.push {p : Addr} {o : HO} (n : H p = none) : Ext φ (φ ++ [p]) H (upd H p o) := ⟨⟨[p], rfl⟩, fun a u e _ _ => by rw [upd_ne (ne_of_none e n)]; exact e, fun a h z => by
  rcases List.mem_append.mp h with h | h
  · exact absurd h z
  · intro o e
    rw [List.mem_singleton.mp h, n] at e
    cases e⟩
theorem Sim.pushO {h : PH} {p : Addr} {o : PO} {ho : HO} (s : Sim K φ h H) (n : H p = none) (r : RO K φ H o ho) : Sim K (φ ++ [p]) (h ++ [o]) (upd H p ho) := by
  have x : Ext φ (φ ++ [p]) H (upd H p ho) := Ext.push n
  refine ⟨by rw [List.length_append, List.length_append, s.len]; rfl, ?_, fun m u e => ?_, tabs_upd (none_plain n) s.tb⟩
  · rw [List.nodup_append]
    refine ⟨s.nd, by simp, fun a ha b hb => ?_⟩
    rw [List.mem_singleton.mp hb]
    intro z
    exact s.out n (z ▸ ha)
  · by_cases hm : m < h.length
    · rw [List.getElem?_append_left hm] at e
      obtain ⟨a, ho, e1, e2, r'⟩ := s.ob m u e
      exact ⟨a, ho, x.at e1, by rw [upd_ne (ne_of_none e2 n)]; exact e2, r'.mono x⟩
    · have em : m = h.length := by
        have := (List.getElem?_eq_some_iff.mp e).1
        rw [List.length_append] at this
        simp at this
        omega
      subst em
      rw [List.getElem?_append_right (Nat.le_refl _), Nat.sub_self] at e
      have eu : o = u := Option.some.inj e
      subst eu
      refine ⟨p, ho, ?_, upd_same, r.mono x⟩
      rw [List.getElem?_append_right (by rw [s.len]; exact Nat.le_refl _), s.len, Nat.sub_self]
      rfl
theorem Sim.push {h : PH} {p : Addr} {l : List PV} {vs : List V} (s : Sim K φ h H) (n : H p = none) (r : RVs K φ H l vs) : Sim K (φ ++ [p]) (h ++ [.lst l]) (upd H p (.lst vs)) := s.pushO n (o := .lst l) ⟨vs, rfl, r⟩
/-- an object of the plain heap is changed -/
theorem Ext.write {h : PH} {a : Addr} {o : HO} (s : Sim K φ h H) (m : a ∈ φ) : Ext φ φ H (upd H a o) := ⟨⟨[], by simp⟩, fun b u e n _ => by
  have z : b ≠ a := fun z => n (by rw [z]; exact m)
  rw [upd_ne z]
  exact e, fun _ h z => absurd h z⟩
theorem nodup_at {l : List Addr} (nd : l.Nodup) {i j : Nat} {x : Addr} (a : l[i]? = some x) (b : l[j]? = some x) : i = j := by
  obtain ⟨h1, e1⟩ := List.getElem?_eq_some_iff.mp a
  obtain ⟨h2, e2⟩ := List.getElem?_eq_some_iff.mp b
  exact (List.getElem_inj nd).mp (e1.trans e2.symm)
theorem Sim.writeO {h : PH} {n : Nat} {a : Addr} {o : PO} {ho : HO} (s : Sim K φ h H) (e : φ[n]? = some a) (r : RO K φ H o ho) : Sim K φ (h.set n o) (upd H a ho) := by
  have x : Ext φ φ H (upd H a ho) := Ext.write s (List.mem_of_getElem? e)
  refine ⟨by rw [List.length_set, s.len], s.nd, fun m u q => ?_, tabs_upd (s.plain (List.mem_of_getElem? e)) s.tb⟩
  by_cases hm : m = n
  · subst hm
    have hl : m < h.length := by
      have := (List.getElem?_eq_some_iff.mp e).1
      rw [← s.len]
      exact this
    rw [List.getElem?_set_self hl] at q
    have eu : o = u := Option.some.inj q
    subst eu
    exact ⟨a, ho, e, upd_same, r.mono x⟩
  · rw [List.getElem?_set_ne (Ne.symm hm)] at q
    obtain ⟨b, ho, e1, e2, r'⟩ := s.ob m u q
    refine ⟨b, ho, e1, ?_, r'.mono x⟩
    rw [upd_ne]
    · exact e2
    · intro z
      subst z
      exact hm (nodup_at s.nd e1 e)
theorem Sim.write {h : PH} {n : Nat} {a : Addr} {l : List PV} {vs : List V} (s : Sim K φ h H) (e : φ[n]? = some a) (r : RVs K φ H l vs) : Sim K φ (h.set n (.lst l)) (upd H a (.lst vs)) := s.writeO e (o := .lst l) ⟨vs, rfl, r⟩
/-- a list that is not of the plain heap -/
theorem Kp.aside {D : Addr} {ws ws' : List V} (e : H D = some (.lst ws)) : Kp φ φ H (upd H D (.lst ws')) := ⟨fun _ _ q => q, fun a o f q n => ⟨by
  rw [upd_ne (fun z => by
    subst z
    rw [e] at q
    cases q
    cases f)]
  exact q, n⟩⟩
theorem Sim.aside {h : PH} {D : Addr} {ws ws' : List V} (s : Sim K φ h H) (e : H D = some (.lst ws)) (n : D ∉ φ) : Sim K φ h (upd H D (.lst ws')) := ⟨s.len, s.nd, fun m u q => by
  obtain ⟨a, ho, e1, e2, r⟩ := s.ob m u q
  refine ⟨a, ho, e1, ?_, r.monoK (Kp.aside e)⟩
  rw [upd_ne (fun z => n (by rw [← z]; exact List.mem_of_getElem? e1))]
  exact e2, tabs_upd (lst_plain e) s.tb⟩
theorem Ext.aside {D : Addr} {o : HO} (x : Ext φ φ' H H') (n : H D = none) : Ext φ φ' H (upd H' D o) := ⟨x.pre, fun a u e m nt => by
  rw [upd_ne (ne_of_none e n)]
  exact x.keep a u e m nt, x.fresh⟩
/-- .. it becomes one of the plain heap -/
theorem Kp.adopt {D : Addr} {ws : List V} (e : H D = some (.lst ws)) : Kp φ (φ ++ [D]) H H := ⟨fun n a q => by
  rw [List.getElem?_append_left (List.getElem?_eq_some_iff.mp q).1]
  exact q, fun a o f q n => ⟨q, fun m => by
  rcases List.mem_append.mp m with z | z
  · exact n z
  · rw [List.mem_singleton.mp z, e] at q
    cases q
    cases f⟩⟩
theorem Sim.adopt {h : PH} {D : Addr} {l : List PV} {ws : List V} (s : Sim K φ h H) (e : H D = some (.lst ws)) (n : D ∉ φ) (r : RVs K φ H l ws) : Sim K (φ ++ [D]) (h ++ [.lst l]) H := by
  have x : Kp φ (φ ++ [D]) H H := Kp.adopt e
  refine ⟨by rw [List.length_append, List.length_append, s.len]; rfl, ?_, fun m u q => ?_, s.tb⟩
  · rw [List.nodup_append]
    refine ⟨s.nd, by simp, fun a ha b hb => ?_⟩
    rw [List.mem_singleton.mp hb]
    intro z
    exact n (z ▸ ha)
  · by_cases hm : m < h.length
    · rw [List.getElem?_append_left hm] at q
      obtain ⟨a, ho, e1, e2, r'⟩ := s.ob m u q
      exact ⟨a, ho, x.pl m a e1, e2, r'.monoK x⟩
    · have em : m = h.length := by
        have := (List.getElem?_eq_some_iff.mp q).1
        rw [List.length_append] at this
        simp at this
        omega
      subst em
      rw [List.getElem?_append_right (Nat.le_refl _), Nat.sub_self] at q
      have eu : PO.lst l = u := Option.some.inj q
      subst eu
      refine ⟨D, .lst ws, ?_, e, ws, rfl, r.monoK x⟩
      rw [List.getElem?_append_right (by rw [s.len]; exact Nat.le_refl _), s.len, Nat.sub_self]
      rfl
theorem Ext.adopt {D : Addr} (x : Ext φ φ' H H') (n : H D = none) : Ext φ (φ' ++ [D]) H H' := ⟨by
  obtain ⟨t, e⟩ := x.pre
  exact ⟨t ++ [D], by rw [e, List.append_assoc]⟩, x.keep, fun a m z => by
  rcases List.mem_append.mp m with q | q
  · exact x.fresh a q z
  · intro o e
    rw [List.mem_singleton.mp q, n] at e
    cases e⟩
/-- tables alone have changed -/
theorem Ext.tabs (e : LamX.ExtN H H') : Ext φ φ H H' := ⟨⟨[], by simp⟩, fun a o q _ nt => e a o q nt, fun _ h z => absurd h z⟩
theorem Sim.tabs {h : PH} (s : Sim K φ h H) (e : LamX.ExtN H H') (t : LamX.Tabs (tabsOf K.K) H') : Sim K φ h H' := ⟨s.len, s.nd, fun m u q => by
  obtain ⟨a, ho, e1, e2, r⟩ := s.ob m u q
  exact ⟨a, ho, e1, e a ho e2 (s.plain (List.mem_of_getElem? e1) ho e2).1, r.mono (Ext.tabs e)⟩, t⟩
theorem Sim.lst {h : PH} {n : Nat} {l : List PV} (s : Sim K φ h H) (e : h[n]? = some (.lst l)) : ∃ a vs, φ[n]? = some a ∧ H a = some (.lst vs) ∧ RVs K φ H l vs := by
  obtain ⟨a, ho, e1, e2, vs, e3, r⟩ := s.ob n _ e
  subst e3
  exact ⟨a, vs, e1, e2, r⟩
theorem Sim.dct {h : PH} {n : Nat} {l : List (Key × PV)} (s : Sim K φ h H) (e : h[n]? = some (.dct l)) : ∃ a kvs, φ[n]? = some a ∧ H a = some (.dK kvs) ∧ kvs.map (·.1) = l.map (·.1) ∧ RVs K φ H (l.map (·.2)) (kvs.map (·.2)) := by
  obtain ⟨a, ho, e1, e2, kvs, e3, r⟩ := s.ob n _ e
  subst e3
  exact ⟨a, kvs, e1, e2, r⟩
/-- what a list, a tuple is in the abstract heap -/
theorem Sim.listV {h : PH} {p : PV} {v : V} {l : List PV} (s : Sim K φ h H) (r : RV K φ H p v) (e : listOf h p = some l) : ∃ a vs, v = .ref a ∧ SqL K.K H a vs ∧ RVs K φ H l vs := by
  cases p with
  | cl l' =>
    obtain ⟨a, vs, e1, q, r'⟩ := r
    cases e
    exact ⟨a, vs, e1, q.sq, r'⟩
  | ref n =>
    obtain ⟨a, e1, e2⟩ := r
    unfold listOf at e
    cases q : h[n]? with
    | none => simp only [q] at e; cases e
    | some o =>
      cases o with
      | lst l' =>
        simp only [q] at e
        cases e
        obtain ⟨a', vs, e3, e4, r'⟩ := s.lst q
        rw [e2] at e3
        cases e3
        exact ⟨a, vs, e1, SqL.of e4, r'⟩
      | dct l' => simp only [q] at e; cases e
      | obj c l' => simp only [q] at e; cases e
  | _ => cases e
theorem Sim.seqV {h : PH} {p : PV} {v : V} {l : List PV} (s : Sim K φ h H) (r : RV K φ H p v) (e : zbw h p = some l) : ∃ a vs, v = .ref a ∧ (SqL K.K H a vs ∨ SqT K.K H a vs) ∧ RVs K φ H l vs := by
  cases p with
  | tup l' =>
    obtain ⟨a, vs, e1, q, r'⟩ := r
    cases e
    exact ⟨a, vs, e1, .inr q.sq, r'⟩
  | cl l' =>
    obtain ⟨a, vs, e1, q, r'⟩ := s.listV (l := l) r e
    exact ⟨a, vs, e1, .inl q, r'⟩
  | ref n =>
    obtain ⟨a, vs, e1, q, r'⟩ := s.listV (l := l) r e
    exact ⟨a, vs, e1, .inl q, r'⟩
  | _ => cases e
end
section
variable {K : ZZ} {φ φ' : List Addr} {H H' : Hp}
def RD (K : ZZ) (φ : List Addr) (H : Hp) (l : List (Key × PV)) (kvs : List (Key × V)) : Prop := kvs.map (·.1) = l.map (·.1) ∧ RVs K φ H (l.map (·.2)) (kvs.map (·.2))
theorem RD.nil : RD K φ H [] [] := ⟨rfl, rfl⟩
theorem RD.cons {k : Key} {p : PV} {v : V} {l : List (Key × PV)} {kvs : List (Key × V)} (h : RV K φ H p v) (r : RD K φ H l kvs) : RD K φ H ((k, p) :: l) ((k, v) :: kvs) := ⟨by simp [r.1], RVs.cons h r.2⟩
theorem RD.inv {k : Key} {p : PV} {l : List (Key × PV)} {kvs : List (Key × V)} (r : RD K φ H ((k, p) :: l) kvs) : ∃ v t, kvs = (k, v) :: t ∧ RV K φ H p v ∧ RD K φ H l t := by
  cases kvs with
  | nil =>
    have := r.1
    simp at this
  | cons kv t =>
    obtain ⟨k', v⟩ := kv
    obtain ⟨r1, v', t', e, q, s⟩ := r
    simp at r1 e
    obtain ⟨rfl, r2⟩ := r1
    obtain ⟨rfl, rfl⟩ := e
    exact ⟨v, t, rfl, q, r2, s⟩
theorem RD.empty {kvs : List (Key × V)} (r : RD K φ H [] kvs) : kvs = [] := by
  have := r.1
  simpa using this
theorem RD.monoK (x : Kp φ φ' H H') {l : List (Key × PV)} {kvs : List (Key × V)} (r : RD K φ H l kvs) : RD K φ' H' l kvs := ⟨r.1, r.2.monoK x⟩
theorem RD.mono (x : Ext φ φ' H H') {l : List (Key × PV)} {kvs : List (Key × V)} (r : RD K φ H l kvs) : RD K φ' H' l kvs := ⟨r.1, r.2.mono x⟩
theorem RD.length {l : List (Key × PV)} {kvs : List (Key × V)} (r : RD K φ H l kvs) : l.length = kvs.length := by
  have := congrArg List.length r.1
  simpa using this.symm
theorem RD.val (k : Key) : ∀ {l : List (Key × PV)} {kvs : List (Key × V)}, RD K φ H l kvs → (valP l k = none ∧ valV kvs k = none) ∨ ∃ p v, valP l k = some p ∧ valV kvs k = some v ∧ RV K φ H p v
  | [], kvs, r => by
    rw [r.empty]
    exact .inl ⟨rfl, rfl⟩
  | (k', p) :: l, kvs, r => by
    obtain ⟨v, t, rfl, q, s⟩ := r.inv
    by_cases e : k' = k
    · exact .inr ⟨p, v, by simp [valP, e], valV_pos e, q⟩
    · rcases RD.val k s with ⟨h1, h2⟩ | ⟨p', v', h1, h2, h3⟩
      · exact .inl ⟨by simpa [valP, e] using h1, by rw [valV_neg e]; exact h2⟩
      · exact .inr ⟨p', v', by simpa [valP, e] using h1, by rw [valV_neg e]; exact h2, h3⟩
theorem RD.any (k : Key) {l : List (Key × PV)} {kvs : List (Key × V)} (r : RD K φ H l kvs) : (l.any fun kv => decide (kv.1 = k)) = kvs.any fun kv => decide (kv.1 = k) := by
  have e1 : (l.any fun kv => decide (kv.1 = k)) = (l.map (·.1)).any fun j => decide (j = k) := by rw [List.any_map]; rfl
  have e2 : (kvs.any fun kv => decide (kv.1 = k)) = (kvs.map (·.1)).any fun j => decide (j = k) := by rw [List.any_map]; rfl
  rw [e1, e2, r.1]
theorem RD.repl (k : Key) {p : PV} {v : V} (h : RV K φ H p v) : ∀ {l : List (Key × PV)} {kvs : List (Key × V)}, RD K φ H l kvs → RD K φ H (l.map fun kv => if kv.1 = k then (kv.1, p) else kv) (kvs.map fun kv => if kv.1 = k then (kv.1, v) else kv)
  | [], kvs, r => by
    rw [r.empty]
    exact RD.nil
  | (k', p') :: l, kvs, r => by
    obtain ⟨v', t, rfl, q, s⟩ := r.inv
    rw [List.map_cons, List.map_cons]
    by_cases e : k' = k
    · simp only [e, if_true]
      exact RD.cons h (RD.repl k h s)
    · simp only [e, if_false]
      exact RD.cons q (RD.repl k h s)
theorem RD.snoc (k : Key) {p : PV} {v : V} (h : RV K φ H p v) {l : List (Key × PV)} {kvs : List (Key × V)} (r : RD K φ H l kvs) : RD K φ H (l ++ [(k, p)]) (kvs ++ [(k, v)]) := ⟨by simp [r.1], by
  rw [List.map_append, List.map_append]
  exact r.2.append (RVs.cons h RVs.nil)⟩
theorem RD.put (k : Key) {p : PV} {v : V} (h : RV K φ H p v) {l : List (Key × PV)} {kvs : List (Key × V)} (r : RD K φ H l kvs) : RD K φ H (putP l k p) (putK kvs k v) := by
  unfold putP putK
  rw [r.any k]
  split
  · exact r.repl k h
  · exact r.snoc k h
theorem RD.merge : ∀ {more : List (Key × PV)} {rs : List (Key × V)} {l : List (Key × PV)} {kvs : List (Key × V)}, RD K φ H more rs → RD K φ H l kvs → RD K φ H (zbv l more) (mergeK kvs rs)
  | [], rs, l, kvs, r, s => by
    rw [r.empty]
    exact s
  | (k, p) :: more, rs, l, kvs, r, s => by
    obtain ⟨v, t, rfl, q, r'⟩ := r.inv
    show RD K φ H (zbv (putP l k p) more) (mergeK (putK kvs k v) t)
    exact RD.merge r' (s.put k q)
theorem Sim.dctR {h : PH} {n : Nat} {l : List (Key × PV)} (s : Sim K φ h H) (e : h[n]? = some (.dct l)) : ∃ a kvs, φ[n]? = some a ∧ H a = some (.dK kvs) ∧ RD K φ H l kvs := s.dct e
theorem Sim.pushD {h : PH} {p : Addr} {l : List (Key × PV)} {kvs : List (Key × V)} (s : Sim K φ h H) (n : H p = none) (r : RD K φ H l kvs) : Sim K (φ ++ [p]) (h ++ [.dct l]) (upd H p (.dK kvs)) := s.pushO n (o := .dct l) ⟨kvs, rfl, r⟩
theorem Sim.writeD {h : PH} {n : Nat} {a : Addr} {l : List (Key × PV)} {kvs : List (Key × V)} (s : Sim K φ h H) (e : φ[n]? = some a) (r : RD K φ H l kvs) : Sim K φ (h.set n (.dct l)) (upd H a (.dK kvs)) := s.writeO e (o := .dct l) ⟨kvs, rfl, r⟩
theorem key_rel {p : PV} {k : Key} {v : V} (r : RV K φ H p v) (e : zce p = some k) : v = kV k := by
  cases p with
  | int i =>
    cases e
    exact r
  | str x =>
    cases e
    exact r
  | _ => cases e
end
def RE (K : ZZ) (φ : List Addr) (H : Hp) : Env → St → Prop
  | [], σ => σ = []
  | p :: ρ, σ => ∃ v r, σ = v :: r ∧ (∀ x, p = some x → ∃ y, v = some y ∧ RV K φ H x y) ∧ RE K φ H ρ r
section
variable {K : ZZ} {φ φ' : List Addr} {H H' : Hp}
theorem RE.mono (x : Ext φ φ' H H') : ∀ {ρ : Env} {σ : St}, RE K φ H ρ σ → RE K φ' H' ρ σ
  | [], _, h => h
  | p :: ρ, σ, h => by
    obtain ⟨v, r, e, q, s⟩ := h
    exact ⟨v, r, e, fun y z => by
      obtain ⟨w, e1, e2⟩ := q y z
      exact ⟨w, e1, e2.mono x⟩, RE.mono x s⟩
theorem RE.get : ∀ {ρ : Env} {σ : St} {i : Nat} {p : PV}, RE K φ H ρ σ → ρ[i]? = some (some p) → ∃ v, σ[i]? = some (some v) ∧ RV K φ H p v
  | [], _, _, _, _, e => by simp at e
  | q :: ρ, σ, 0, p, h, e => by
    obtain ⟨v, r, e1, k, s⟩ := h
    simp at e
    obtain ⟨w, e2, e3⟩ := k p e
    exact ⟨w, by rw [e1, e2]; rfl, e3⟩
  | q :: ρ, σ, i + 1, p, h, e => by
    obtain ⟨v, r, e1, k, s⟩ := h
    obtain ⟨w, e2, e3⟩ := RE.get (i := i) s (by simpa using e)
    exact ⟨w, by rw [e1]; simpa using e2, e3⟩
theorem RE.set : ∀ {ρ : Env} {σ : St} {p : PV} {v : V} (i : Nat), RV K φ H p v → RE K φ H ρ σ → RE K φ H (ρ.set i (some p)) (σ.set i (some v))
  | [], σ, _, _, _, _, h => by
    rw [show σ = [] from h]
    exact rfl
  | q :: ρ, σ, p, v, 0, hp, h => by
    obtain ⟨w, r, e1, k, s⟩ := h
    rw [e1]
    exact ⟨some v, r, rfl, fun x e => ⟨v, rfl, by cases e; exact hp⟩, s⟩
  | q :: ρ, σ, p, v, i + 1, hp, h => by
    obtain ⟨w, r, e1, k, s⟩ := h
    rw [e1]
    exact ⟨w, r.set i (some v), rfl, k, RE.set i hp s⟩
theorem RE.unset : ∀ {ρ : Env} {σ : St} (i : Nat), RE K φ H ρ σ → RE K φ H (ρ.set i none) (σ.set i none)
  | [], σ, _, h => by
    rw [show σ = [] from h]
    exact rfl
  | q :: ρ, σ, 0, h => by
    obtain ⟨w, r, e1, k, s⟩ := h
    rw [e1]
    exact ⟨none, r, rfl, fun x e => (by cases e), s⟩
  | q :: ρ, σ, i + 1, h => by
    obtain ⟨w, r, e1, k, s⟩ := h
    rw [e1]
    exact ⟨w, r.set i none, rfl, k, RE.unset i s⟩
theorem RE.unsetA {v : Option V} : ∀ {ρ : Env} {σ : St} (i : Nat), RE K φ H ρ σ → RE K φ H (ρ.set i none) (σ.set i v)
  | [], σ, _, h => by
    rw [show σ = [] from h]
    exact rfl
  | q :: ρ, σ, 0, h => by
    obtain ⟨w, r, e1, k, s⟩ := h
    rw [e1]
    exact ⟨v, r, rfl, fun x e => (by cases e), s⟩
  | q :: ρ, σ, i + 1, h => by
    obtain ⟨w, r, e1, k, s⟩ := h
    rw [e1]
    exact ⟨w, r.set i v, rfl, k, RE.unsetA i s⟩
theorem RE.wipe {ρ : Env} {σ : St} (h : RE K φ H ρ σ) : ∀ is : List Nat, RE K φ H (zbi ρ is) (L2.wipe σ is)
  | [] => h
  | i :: is => (RE.wipe h is).unset i
end
end Sb
namespace Sb
open PySem PySem.Spec PyProof.Rows L2
/-- how an exception lies: its class, its own dict -/
def RX (K : ZZ) (mg : Str → Option Value) (φ : List Addr) (H : Hp) (x : Exn) (cls : Value) (d : Option Addr) : Prop :=
  cls = .ref (He.ga K.K x.cls) ∧ ∃ fs : List (Str × V), ((d = none ∧ fs = []) ∨ ∃ da, d = some da ∧ H da = some (.xd fs) ∧ da ∉ φ) ∧ fs.map (·.1) = x.ns ∧ RVs K φ H x.vs (fs.map (·.2))
/-- rel: how a plain answer lies; W: what is wanted of an exception; Q: what is wanted of the answer -/
def Out (K : ZZ) (mg : Str → Option Value) {α β : Type} (rel : List Addr → Hp → α → β → Prop) (φ : List Addr) (H : Hp) (W : XK) (Q : β → Hp → Prop) : R α → Prop
  | .ok a h => ∀ φ' H' b, Ext φ φ' H H' → Sim K φ' h H' → rel φ' H' a b → Q b H'
  | .ex x h => ∀ φ' H' cls d, Ext φ φ' H H' → Sim K φ' h H' → RX K mg φ' H' x cls d → W cls d H'
  | .no => False
section
variable {K : ZZ} {mg : Str → Option Value} {α β γ δ : Type} {rel : List Addr → Hp → α → β → Prop} {rel2 : List Addr → Hp → γ → δ → Prop} {φ φ' : List Addr} {H H' : Hp} {W : XK} {Q Q' : β → Hp → Prop}
theorem Out.mono (x : Ext φ φ' H H') : ∀ {m : R α}, Out K mg rel φ H W Q m → Out K mg rel φ' H' W Q m
  | .ok _ _, h => fun φ2 H2 b y s r => h φ2 H2 b (x.trans y) s r
  | .ex _ _, h => fun φ2 H2 c d y s r => h φ2 H2 c d (x.trans y) s r
  | .no, h => h
theorem Out.imp (f : ∀ b H', Q b H' → Q' b H') : ∀ {m : R α}, Out K mg rel φ H W Q m → Out K mg rel φ H W Q' m
  | .ok _ _, h => fun φ2 H2 b y s r => f _ _ (h φ2 H2 b y s r)
  | .ex _ _, h => h
  | .no, h => h
/-- one thing after another -/
theorem Out.bind {m : R γ} {f : γ → PH → R α} (h : Out K mg rel φ H W Q (m.bind f)) :
    Out K mg rel2 φ H W (fun b H' => ∃ φ' a h1, Ext φ φ' H H' ∧ Sim K φ' h1 H' ∧ rel2 φ' H' a b ∧ Out K mg rel φ' H' W Q (f a h1)) m := by
  cases m with
  | ok a h1 => exact fun φ' H' b x s r => ⟨φ', a, h1, x, s, r, h.mono x⟩
  | ex x h1 => exact h
  | no => exact h
/-- the answer is there -/
theorem Out.at {a : α} {h : PH} {b : β} (o : Out K mg rel φ H W Q (.ok a h)) (s : Sim K φ h H) (r : rel φ H a b) : Q b H := o φ H b (Ext.refl _ _) s r
theorem Out.some {o : Option α} {h : PH} (q : Out K mg rel φ H W Q (ofO o h)) : ∃ a, o = .some a ∧ Out K mg rel φ H W Q (.ok a h) := by
  cases o with
  | none => exact q.elim
  | some a => exact ⟨a, rfl, q⟩
end
/-- an answer that is the thing itself -/
def RI {α : Type} (_ : List Addr) (_ : Hp) (a b : α) : Prop := a = b
theorem line_ok {n : Nat} (h : za3 n = true) : n ≤ sizeLine := by
  have e : n ≤ 1000000 := of_decide_eq_true h
  have := sizeLine_eq
  omega
theorem line_lt {n : Nat} (h : za3 (n + 1) = true) : n < sizeLine := by
  have e : n + 1 ≤ 1000000 := of_decide_eq_true h
  have := sizeLine_eq
  omega
def rOp (K : ZZ) (mg : Str → Option Value) (W : XK) (f : PV → PV → PH → R PV) : R2 := fun x y H Q => ∃ φ h a b, Sim K φ h H ∧ RV K φ H a x ∧ RV K φ H b y ∧ Out K mg (RV K) φ H W Q (f a b h)
/-- a new list -/
theorem Out.alloc {K : ZZ} {mg : Str → Option Value} {φ : List Addr} {H : Hp} {W : XK} {Q : VK} {h : PH} {l : List PV} {vs : List V} (s : Sim K φ h H) (r : RVs K φ H l vs) (o : Out K mg (RV K) φ H W Q (.ok (.ref h.length) (h ++ [.lst l]))) :
    ∀ p, H p = none → Q (.ref p) (upd H p (.lst vs)) := fun p n => o (φ ++ [p]) _ (.ref p) (Ext.push n) (s.push n r) ⟨p, rfl, by
  rw [← s.len, List.getElem?_append_right (Nat.le_refl _), Nat.sub_self]
  rfl⟩
/-- a new tuple -/
theorem Out.tupn {K : ZZ} {mg : Str → Option Value} {φ : List Addr} {H : Hp} {W : XK} {Q : VK} {h : PH} {l : List PV} {vs : List V} (s : Sim K φ h H) (r : RVs K φ H l vs) (o : Out K mg (RV K) φ H W Q (.ok (.tup l) h)) :
    ∀ p, H p = none → Q (.ref p) (upd H p (.tup vs)) := fun p n => o φ _ (.ref p) (Ext.new n) (s.new n) ⟨p, vs, rfl, .inl ⟨.inl upd_same, s.out n⟩, r.mono (Ext.new n)⟩
section
variable {X : Cx} {W : XK}
theorem op_fdivNW : OpR X (binaryOp .FloorDiv) (rI (fun _ j => j ≠ 0 ∧ j.natAbs.log2 < 9000) fun i j => .int (i.fdiv j)) := opI fun _ _ _ _ _ _ _ hc q => floordiv_int hc.1 q (.inl (PyProof.noPylong_of_log2 hc.2))
theorem rep_rel {K : ZZ} {φ : List Addr} {H : Hp} {l : List PV} {vs : List V} (r : RVs K φ H l vs) : ∀ n : Nat, RVs K φ H (List.replicate n l).flatten (List.replicate n vs).flatten
  | 0 => rfl
  | n + 1 => by
    rw [List.replicate_succ, List.replicate_succ, List.flatten_cons, List.flatten_cons]
    exact r.append (rep_rel r n)
/-- a new dict -/
theorem Out.allocD {K : ZZ} {mg : Str → Option Value} {φ : List Addr} {H : Hp} {W : XK} {Q : VK} {h : PH} {l : List (Key × PV)} {kvs : List (Key × V)} (s : Sim K φ h H) (r : RD K φ H l kvs) (o : Out K mg (RV K) φ H W Q (Sb.allocD l h)) :
    ∀ p, H p = none → Q (.ref p) (upd H p (.dK kvs)) := fun p n => (show Out K mg (RV K) φ H W Q (.ok (.ref h.length) (h ++ [.dct l])) from o) (φ ++ [p]) _ (.ref p) (Ext.push n) (s.pushD n r) ⟨p, rfl, by
  rw [← s.len, List.getElem?_append_right (Nat.le_refl _), Nat.sub_self]
  rfl⟩
theorem bin_ok (op : Operator) : OpR X (binaryOp op) (rOp (zOf X) X.mg W (binop op)) := by
  intro pins s σ H x y v u Q I rx ry hh
  obtain ⟨φ, h, a, b, sm, ra, rb, o⟩ := hh
  unfold binop at o
  split at o
  · exact op_add pins s σ H x y v u Q I rx ry ⟨_, _, ra, rb, o.at sm rfl⟩
  · exact op_sub pins s σ H x y v u Q I rx ry ⟨_, _, ra, rb, o.at sm rfl⟩
  · split at o
    · rename_i hm
      have hm' := of_decide_eq_true hm
      exact op_mulW pins s σ H x y v u Q I rx ry ⟨_, _, ra, rb, hm', o.at sm rfl⟩
    · exact o.elim
  · split at o
    · rename_i hm
      obtain ⟨h1, h2⟩ := Bool.and_eq_true_iff.mp hm
      exact op_fdivNW pins s σ H x y v u Q I rx ry ⟨_, _, ra, rb, ⟨of_decide_eq_true h1, of_decide_eq_true h2⟩, o.at sm rfl⟩
    · exact o.elim
  · split at o
    · exact o.elim
    · rename_i hm
      exact op_modN pins s σ H x y v u Q I rx ry ⟨_, _, ra, rb, hm, o.at sm rfl⟩
  · split at o
    · rename_i hm
      obtain ⟨h12, h3⟩ := Bool.and_eq_true_iff.mp hm
      obtain ⟨h1, h2⟩ := Bool.and_eq_true_iff.mp h12
      exact op_pow pins s σ H x y v u Q I rx ry ⟨_, _, ra, rb, ⟨of_decide_eq_true h1, of_decide_eq_true h2, of_decide_eq_true h3⟩, o.at sm rfl⟩
    · exact o.elim
  · split at o
    · rename_i hm
      exact op_add_str pins s σ H x y v u Q I rx ry ⟨_, _, ra, rb, line_ok hm, o.at sm rfl⟩
    · exact o.elim
  · rename_i m n
    split at o
    · rename_i l k e1 e2
      split at o
      · rename_i hm
        obtain ⟨a1, vs1, f1, g1, r1⟩ := sm.lst e1
        obtain ⟨a2, vs2, f2, g2, r2⟩ := sm.lst e2
        obtain ⟨b1, hx, q1⟩ := ra
        obtain ⟨b2, hy, q2⟩ := rb
        rw [f1] at q1
        rw [f2] at q2
        cases q1
        cases q2
        have hz : za3 ((l ++ k).length) = true := by rw [List.length_append]; exact hm
        unfold Sb.alloc at o
        rw [if_pos hz] at o
        exact op_cat pins s σ H x y v u Q I rx ry ⟨a1, a2, vs1, vs2, hx, hy, g1, g2, by rw [← r1.length, ← r2.length]; exact line_ok hm, o.alloc sm (r1.append r2)⟩
      · exact o.elim
    · exact o.elim
  · rename_i m k
    split at o
    · rename_i l e1
      split at o
      · rename_i hm
        obtain ⟨a1, vs1, f1, g1, r1⟩ := sm.lst e1
        obtain ⟨b1, hx, q1⟩ := ra
        rw [f1] at q1
        cases q1
        have hl : vs1.length * k.toNat ≤ 1000 * 1000 := Nat.mul_le_mul (by rw [← r1.length]; exact hm.2.2) (by omega)
        have hs := sizeLine_eq
        exact op_rep pins s σ H x y v u Q I rx ry ⟨a1, k, vs1, hx, rb, g1, by omega, by omega, by omega, o.alloc sm (rep_rel r1 _)⟩
      · exact o.elim
    · exact o.elim
  · rename_i l k
    split at o
    · rename_i hm
      obtain ⟨a1, vs1, hx, h1, r1⟩ := ra
      obtain ⟨a2, vs2, hy, h2, r2⟩ := rb
      refine op_catA pins s σ H x y v u Q I rx ry ⟨a1, a2, vs1, vs2, hx, hy, h1.sq, h2.sq, by rw [← r1.length, ← r2.length]; exact line_ok hm, fun e => ?_, fun _ e => ?_, fun _ _ => o.tupn sm (r1.append r2)⟩
      · subst e
        have : l = [] := List.length_eq_zero_iff.mp r1.length
        subst this
        exact o.at sm ⟨a2, vs2, rfl, h2, r2⟩
      · subst e
        have : k = [] := List.length_eq_zero_iff.mp r2.length
        subst this
        rw [List.append_nil] at o
        exact o.at sm ⟨a1, vs1, rfl, h1, r1⟩
    · exact o.elim
  · exact o.elim
mutual
theorem dp_of {K : ZZ} {φ : List Addr} {h : PH} {H : Hp} (s : Sim K φ h H) : ∀ (n : Nat) (p : PV) (v : V) (d : PyData), RV K φ H p v → pd h n p = some d → Dp K.K H v d
  | n, .non, v, d, r, e => by
    have : v = .non := r
    subst this
    cases n <;> (cases e; exact .non)
  | n, .bl b, v, d, r, e => by
    have : v = .bl b := r
    subst this
    cases n <;> (cases e; exact .bl b)
  | n, .int i, v, d, r, e => by
    have : v = .int i := r
    subst this
    cases n <;> (cases e; exact .int i)
  | n, .str z, v, d, r, e => by
    have : v = .str z := r
    subst this
    have e' : d = .str z := by
      cases n <;> (
        unfold pd at e
        split at e
        · exact (Option.some.inj e).symm
        · cases e)
    subst e'
    exact .str z
  | 0, .tup l, v, d, r, e => by cases e
  | n + 1, .tup l, v, d, r, e => by
    obtain ⟨a, vs, e1, q, r'⟩ := r
    subst e1
    obtain ⟨ds, e2, e3⟩ := Option.map_eq_some_iff.mp (show (mapO (pd h n) l).map .tuple = some d from e)
    subst e3
    exact .tup q.sq (dps_of s n l vs ds r' e2)
  | 0, .cl l, v, d, r, e => by cases e
  | n + 1, .cl l, v, d, r, e => by
    obtain ⟨a, vs, e1, q, r'⟩ := r
    subst e1
    obtain ⟨ds, e2, e3⟩ := Option.map_eq_some_iff.mp (show (mapO (pd h n) l).map .list = some d from e)
    subst e3
    exact .lst q.sq (dps_of s n l vs ds r' e2)
  | 0, .ref m, v, d, r, e => by cases e
  | n + 1, .ref m, v, d, r, e => by
    obtain ⟨a, e1, q⟩ := r
    subst e1
    unfold pd at e
    cases z : h[m]? with
    | none => simp only [z] at e; cases e
    | some o =>
      cases o with
      | lst l =>
        simp only [z] at e
        obtain ⟨a', vs, e4, e5, r'⟩ := s.lst z
        rw [q] at e4
        cases e4
        obtain ⟨ds, e2, e3⟩ := Option.map_eq_some_iff.mp e
        subst e3
        exact .lst (SqL.of e5) (dps_of s n l vs ds r' e2)
      | dct l => simp only [z] at e; cases e
      | obj c l => simp only [z] at e; cases e
  | n, .ty t, v, d, r, e => by cases n <;> cases e
  | n, .cls t, v, d, r, e => by cases n <;> cases e
  | n, .xc x ns vs, v, d, r, e => by cases n <;> cases e
  | n, .ste l, v, d, r, e => by cases n <;> cases e
theorem dps_of {K : ZZ} {φ : List Addr} {h : PH} {H : Hp} (s : Sim K φ h H) : ∀ (n : Nat) (l : List PV) (vs : List V) (ds : List PyData), RVs K φ H l vs → mapO (pd h n) l = some ds → DpAll K.K H vs ds
  | n, [], vs, ds, r, e => by
    have : vs = [] := r
    subst this
    cases e
    exact .nil
  | n, p :: l, vs, ds, r, e => by
    obtain ⟨v, t, e1, q, r'⟩ := r
    subst e1
    unfold mapO at e
    cases z1 : pd h n p with
    | none => simp only [z1] at e; cases e
    | some d1 =>
      cases z2 : mapO (pd h n) l with
      | none => simp only [z1, z2] at e; cases e
      | some d2 =>
        simp only [z1, z2] at e
        cases e
        exact .cons (dp_of s n p v d1 q z1) (dps_of s n l t d2 r' z2)
end
mutual
theorem pd_shape {h : PH} : ∀ (n : Nat) (p : PV) (d : PyData), pd h n p = some d → d.canLay0 = true ∧ d.depth ≤ n
  | n, .non, d, e => by cases n <;> (cases e; exact ⟨rfl, Nat.zero_le _⟩)
  | n, .bl b, d, e => by cases n <;> (cases e; exact ⟨rfl, Nat.zero_le _⟩)
  | n, .int i, d, e => by cases n <;> (cases e; exact ⟨rfl, Nat.zero_le _⟩)
  | n, .str z, d, e => by
    have e' : zch z = true ∧ d = .str z := by
      cases n <;> (
        unfold pd at e
        split at e
        · exact ⟨by assumption, (Option.some.inj e).symm⟩
        · cases e)
    obtain ⟨e1, e2⟩ := e'
    subst e2
    exact ⟨e1, Nat.zero_le _⟩
  | 0, .tup l, d, e => by cases e
  | n + 1, .tup l, d, e => by
    obtain ⟨ds, e2, e3⟩ := Option.map_eq_some_iff.mp (show (mapO (pd h n) l).map .tuple = some d from e)
    subst e3
    obtain ⟨h1, h2⟩ := pds_shape n l ds e2
    exact ⟨h1, by unfold PyData.depth; omega⟩
  | 0, .cl l, d, e => by cases e
  | n + 1, .cl l, d, e => by
    obtain ⟨ds, e2, e3⟩ := Option.map_eq_some_iff.mp (show (mapO (pd h n) l).map .list = some d from e)
    subst e3
    obtain ⟨h1, h2⟩ := pds_shape n l ds e2
    exact ⟨h1, by unfold PyData.depth; omega⟩
  | 0, .ref m, d, e => by cases e
  | n + 1, .ref m, d, e => by
    unfold pd at e
    cases z : h[m]? with
    | none => simp only [z] at e; cases e
    | some o =>
      cases o with
      | lst l =>
        simp only [z] at e
        obtain ⟨ds, e2, e3⟩ := Option.map_eq_some_iff.mp e
        subst e3
        obtain ⟨h1, h2⟩ := pds_shape n l ds e2
        exact ⟨h1, by unfold PyData.depth; omega⟩
      | dct l => simp only [z] at e; cases e
      | obj c l => simp only [z] at e; cases e
  | n, .ty t, d, e => by cases n <;> cases e
  | n, .cls t, d, e => by cases n <;> cases e
  | n, .xc x ns vs, d, e => by cases n <;> cases e
  | n, .ste l, d, e => by cases n <;> cases e
theorem pds_shape {h : PH} : ∀ (n : Nat) (l : List PV) (ds : List PyData), mapO (pd h n) l = some ds → PyData.canLayAll0 ds = true ∧ PyData.depthAll ds ≤ n
  | n, [], ds, e => by
    cases e
    exact ⟨rfl, Nat.zero_le _⟩
  | n, p :: l, ds, e => by
    unfold mapO at e
    cases z1 : pd h n p with
    | none => simp only [z1] at e; cases e
    | some d1 =>
      cases z2 : mapO (pd h n) l with
      | none => simp only [z1, z2] at e; cases e
      | some d2 =>
        simp only [z1, z2] at e
        cases e
        obtain ⟨a1, a2⟩ := pd_shape n p d1 z1
        obtain ⟨b1, b2⟩ := pds_shape n l d2 z2
        refine ⟨?_, ?_⟩
        · show (d1.canLay0 && PyData.canLayAll0 d2) = true
          rw [a1, b1]
          rfl
        · unfold PyData.depthAll
          omega
end
theorem shaped_of {h : PH} {n : Nat} {p : PV} {d : PyData} (e : pd h n p = some d) (hn : n ≤ 64) : SeqAt.shaped d = true := by
  obtain ⟨h1, h2⟩ := pd_shape n p d e
  unfold SeqAt.shaped
  rw [h1, decide_eq_true (show d.depth ≤ 64 by omega)]
  rfl
theorem eqP_ok {K : ZZ} {φ : List Addr} {h : PH} {H : Hp} (s : Sim K φ h H) {a b : PV} {x y : V} {r : Bool} (ra : RV K φ H a x) (rb : RV K φ H b y) (e : eqP h a b = some r) :
    (∃ d e, Dp K.K H x d ∧ Dp K.K H y e ∧ SeqAt.shaped d = true ∧ SeqAt.shaped e = true ∧ PyData.eqv d e = r) ∨ dEqP h a b = some r := by
  unfold eqP at e
  cases z1 : pd h 8 a with
  | none => simp only [z1] at e; exact .inr e
  | some d1 =>
    cases z2 : pd h 8 b with
    | none => simp only [z1, z2] at e; exact .inr e
    | some d2 =>
      simp only [z1, z2] at e
      exact .inl ⟨d1, d2, dp_of s 8 a x d1 ra z1, dp_of s 8 b y d2 rb z2, shaped_of z1 (by decide), shaped_of z2 (by decide), Option.some.inj e⟩
section
variable {X : Cx} {pins : List (Addr × Obj)} {s : Shared} {σ : L2.St} {φ : List Addr} {h : PH} {H : Hp}
theorem dEq_hits (hu : X.A.units + 66 < cLine) (I : Inv X pins σ H s) (sm : Sim (zOf X) φ h H) {k : List (Key × PV)} {ls : List (Key × V)} {vb : List (Key × Value)} (rk : RD (zOf X) φ H k ls) (rb : KV ls vb) (hk : ∀ kv ∈ k, (pd h 8 kv.2).isSome = true) :
    ∀ {l : List (Key × PV)} {ks : List (Key × V)} {va : List (Key × Value)}, RD (zOf X) φ H l ks → KV ks va → (∀ kv ∈ l, (pd h 8 kv.2).isSome = true) → PySem.W.KeqHits X.A.in1 s vb va (l.all (dHit h k))
  | [], ks, va, rl, ra, _ => by
    have := rl.empty
    subst this
    unfold KV at ra
    cases ra
    exact .nil
  | (key, p) :: l, ks, va, rl, ra, hl => by
    obtain ⟨v, t, rfl, rv, rt⟩ := rl.inv
    unfold KV at ra
    cases ra with
    | @cons _ q _ qs hq tq =>
      obtain ⟨q1, q2⟩ := q
      obtain ⟨e1, e2⟩ := hq
      have e1 : key = q1 := e1
      subst e1
      have e2 : RelV v q2 := e2
      have ih := dEq_hits hu I sm rk rb hk rt tq fun kv hm => hl kv (List.mem_cons_of_mem _ hm)
      have rr := rb.val key
      rw [List.all_cons]
      rcases rk.val key with ⟨n1, n2⟩ | ⟨p', v', n1, n2, n3⟩
      · rw [n2] at rr
        rw [show dHit h k (key, p) = false from by unfold dHit; rw [n1], Bool.false_and]
        refine .miss ?_
        cases hv : valueAt vb key with
        | none => rfl
        | some w => rw [hv] at rr; exact rr.elim
      · rw [n2] at rr
        obtain ⟨y, hy, ry⟩ := rr.some_of
        rw [show dHit h k (key, p) = eqvP h p p' from by unfold dHit; rw [n1]]
        obtain ⟨d1, z1⟩ := Option.isSome_iff_exists.mp (hl (key, p) (by simp))
        have z1 : pd h 8 p = some d1 := z1
        have hm : (key, p') ∈ k := by
          unfold valP at n1
          obtain ⟨kv, f1, f2⟩ := Option.map_eq_some_iff.mp n1
          have := List.mem_of_find?_eq_some f1
          have k1 : kv.1 = key := by simpa using List.find?_some f1
          rw [← k1, ← f2]
          exact this
        obtain ⟨d2, z2⟩ := Option.isSome_iff_exists.mp (hk _ hm)
        have z2 : pd h 8 p' = some d2 := z2
        have ev : eqvP h p p' = PyData.eqv d1 d2 := by unfold eqvP; rw [z1, z2]
        obtain ⟨as, r1⟩ := Dp.reads I d1 v q2 (dp_of sm 8 p v d1 rv z1) e2
        obtain ⟨bs, r2⟩ := Dp.reads I d2 v' y (dp_of sm 8 p' v' d2 n3 z2) ry
        rw [ev]
        exact .hit hy (PySem.W.keq_at r1 r2 (shaped_of z1 (by decide)) (shaped_of z2 (by decide)) (by show X.A.units + 1 + 64 < cLine; omega)) ih
theorem dEq_ok (hu : X.A.units + 66 < cLine) {a b : PV} {x y : V} {v u : Value} {r : Bool} {Q : VK} (I : Inv X pins σ H s) (rx : RelV x v) (ry : RelV y u) (sm : Sim (zOf X) φ h H) (ra : RV (zOf X) φ H a x) (rb : RV (zOf X) φ H b y) (e : dEqP h a b = some r) :
    (Q (.bl r) H → wpAny (model X.prog X.w) X.A (compareOp .Eq v u) (EP X pins σ Q) X.xe s) ∧ (Q (.bl (!r)) H → wpAny (model X.prog X.w) X.A (compareOp .NotEq v u) (EP X pins σ Q) X.xe s) := by
  unfold dEqP at e
  split at e
  · rename_i m n
    split at e
    · rename_i l k e1 e2
      unfold dEq at e
      split at e
      · rename_i hall
        obtain ⟨h1, h2⟩ := Bool.and_eq_true_iff.mp hall
        have h1 := List.all_eq_true.mp h1
        have h2 := List.all_eq_true.mp h2
        obtain ⟨a1, hx, f1⟩ := ra
        obtain ⟨b1, hy, f2⟩ := rb
        obtain ⟨a', ks, g1, g2, g3⟩ := sm.dctR e1
        obtain ⟨b', ls, k1, k2, k3⟩ := sm.dctR e2
        rw [f1] at g1
        cases g1
        rw [f2] at k1
        cases k1
        subst hx hy
        cases (show v = Value.ref a1 from rx)
        cases (show u = Value.ref b1 from ry)
        obtain ⟨_, ya, va, rva, da⟩ := (show ObjOk X.prog X.w H s.heap a1 (.dK ks) from I.hok a1 _ g2)
        obtain ⟨_, yb, vb, rvb, db⟩ := (show ObjOk X.prog X.w H s.heap b1 (.dK ls) from I.hok b1 _ k2)
        have hits := dEq_hits hu I sm k3 rvb h2 g3 rva h1
        have el : (va.length == vb.length) = (l.length == k.length) := by rw [← rva.length, ← rvb.length, ← g3.length, ← k3.length]
        have er := Option.some.inj e
        rw [← el] at er
        exact ⟨fun q => PySem.W.keq_eq (knd := mixKind X.prog X.w) ya yb da db (by omega) (fun _ => hits) ⟨.bl _, H, I, rfl, by rw [er]; exact q⟩, fun q => PySem.W.keq_ne (knd := mixKind X.prog X.w) ya yb da db (by omega) (fun _ => hits) ⟨.bl _, H, I, rfl, by rw [er]; exact q⟩⟩
      · cases e
    · cases e
  · cases e
end
section
variable {X : Cx} {W : XK}
theorem RV.isNon {K : ZZ} {φ : List Addr} {H : Hp} {a : PV} {x : V} (r : RV K φ H a x) : decide (x = .non) = isNonP a := by
  cases a with
  | non => rw [show x = .non from r]; rfl
  | bl b => rw [show x = .bl b from r]; rfl
  | int b => rw [show x = .int b from r]; rfl
  | str b => rw [show x = .str b from r]; rfl
  | ty b => rw [show x = .ty b.nm from r]; rfl
  | ref n => obtain ⟨a, e, _⟩ := r; rw [e]; rfl
  | tup n => obtain ⟨a, _, e, _⟩ := r; rw [e]; rfl
  | cl n => obtain ⟨a, _, e, _⟩ := r; rw [e]; rfl
  | cls n =>
    have r' : x = if n = "ValueError" then V.ty "ValueError" else .ref (He.ga K.K n) := r
    rw [r']
    split <;> rfl
  | xc n m l => obtain ⟨a, _, e, _⟩ := r; rw [e]; rfl
  | ste n => obtain ⟨a, e, _⟩ := r; rw [e]; rfl
theorem _root_.L2.Room.u66 {k : Nat} {A : Around} (r : Room k A) : A.units + 66 < cLine := by have := r.un; omega
/-- x in a list, a tuple, by data -/
theorem inSeq_ok {K : ZZ} {φ : List Addr} {h : PH} {H : Hp} (s : Sim K φ h H) {a : PV} {x : V} {l : List PV} {vs : List V} {r : Bool} (ra : RV K φ H a x) (rl : RVs K φ H l vs) (e : inSeqP h a l = some r) :
    ∃ d ds, Dp K.K H x d ∧ DpAll K.K H vs ds ∧ SeqAt.shaped d = true ∧ SeqAt.shaped (.list ds) = true ∧ (ds.any fun z => PyData.eqv z d) = r := by
  unfold inSeqP at e
  cases z1 : pd h 8 a with
  | none => simp only [z1] at e; cases e
  | some d1 =>
    cases z2 : mapO (pd h 8) l with
    | none => simp only [z1, z2] at e; cases e
    | some d2 =>
      simp only [z1, z2] at e
      obtain ⟨h1, h2⟩ := pds_shape 8 l d2 z2
      refine ⟨d1, d2, dp_of s 8 a x d1 ra z1, dps_of s 8 l vs d2 rl z2, shaped_of z1 (by decide), ?_, Option.some.inj e⟩
      unfold SeqAt.shaped
      have e1 : (PyData.list d2).canLay0 = true := h1
      have e2 : (PyData.list d2).depth ≤ 64 := by unfold PyData.depth; omega
      rw [e1, decide_eq_true e2]
      rfl
theorem in_tupD (hu : X.A.units + 66 < cLine) : OpR X (compareOp .In) (fun x y H Q => ∃ d ds, Dp X.K H x d ∧ Dp X.K H y (.tuple ds) ∧ SeqAt.shaped d = true ∧ SeqAt.shaped (.list ds) = true ∧ Q (.bl (ds.any fun z => PyData.eqv z d)) H) := by
  intro pins s σ H x y v u Q I rx ry h
  obtain ⟨d, ds, hd, he, sd, se, q⟩ := h
  obtain ⟨as, r1⟩ := Dp.reads I d x v hd rx
  obtain ⟨bs, r2⟩ := Dp.reads I (.tuple ds) y u he ry
  exact SeqAt.in_tuple_reads r2 r1 (SeqAt.canLay_of_shaped se) (SeqAt.canLay_of_shaped sd) (room_in_shaped sd (by omega)) ⟨.bl _, H, I, rfl, q⟩
theorem notIn_tupD (hu : X.A.units + 66 < cLine) : OpR X (compareOp .NotIn) (fun x y H Q => ∃ d ds, Dp X.K H x d ∧ Dp X.K H y (.tuple ds) ∧ SeqAt.shaped d = true ∧ SeqAt.shaped (.list ds) = true ∧ Q (.bl (!ds.any fun z => PyData.eqv z d)) H) := by
  intro pins s σ H x y v u Q I rx ry h
  obtain ⟨d, ds, hd, he, sd, se, q⟩ := h
  obtain ⟨as, r1⟩ := Dp.reads I d x v hd rx
  obtain ⟨bs, r2⟩ := Dp.reads I (.tuple ds) y u he ry
  exact SeqAt.notIn_tuple_reads r2 r1 (SeqAt.canLay_of_shaped se) (SeqAt.canLay_of_shaped sd) (room_in_shaped sd (by omega)) ⟨.bl _, H, I, rfl, q⟩
theorem in_ok (hu : X.A.units + 66 < cLine) {pins : List (Addr × Obj)} {s : Shared} {σ : L2.St} {φ : List Addr} {h : PH} {H : Hp} {a b : PV} {x y : V} {v u : Value} {r : Bool} {Q : VK} (I : Inv X pins σ H s) (rx : RelV x v) (ry : RelV y u) (sm : Sim (zOf X) φ h H) (ra : RV (zOf X) φ H a x) (rb : RV (zOf X) φ H b y) (e : inP h a b = some r) :
    (Q (.bl r) H → wpAny (model X.prog X.w) X.A (compareOp .In v u) (EP X pins σ Q) X.xe s) ∧ (Q (.bl (!r)) H → wpAny (model X.prog X.w) X.A (compareOp .NotIn v u) (EP X pins σ Q) X.xe s) := by
  have lst : ∀ {l : List PV}, inSeqP h a l = some r → (∃ ad vs, y = .ref ad ∧ SqL X.K H ad vs ∧ RVs (zOf X) φ H l vs) → (Q (.bl r) H → wpAny (model X.prog X.w) X.A (compareOp .In v u) (EP X pins σ Q) X.xe s) ∧ (Q (.bl (!r)) H → wpAny (model X.prog X.w) X.A (compareOp .NotIn v u) (EP X pins σ Q) X.xe s) := by
    rintro l e1 ⟨ad, vs, hy, hq, rl⟩
    obtain ⟨d, ds, h1, h2, h3, h4, h5⟩ := inSeq_ok sm ra rl e1
    subst hy h5
    exact ⟨fun q => op_inD (by omega) pins s σ H x _ v u Q I rx ry ⟨d, ds, h1, .lst hq h2, h3, h4, q⟩, fun q => op_notInD (by omega) pins s σ H x _ v u Q I rx ry ⟨d, ds, h1, .lst hq h2, h3, h4, q⟩⟩
  cases b with
  | tup l =>
    obtain ⟨ad, vs, hy, hq, rl⟩ := rb
    obtain ⟨d, ds, h1, h2, h3, h4, h5⟩ := inSeq_ok sm ra rl e
    subst hy h5
    exact ⟨fun q => in_tupD hu pins s σ H x _ v u Q I rx ry ⟨d, ds, h1, .tup hq.sq h2, h3, h4, q⟩, fun q => notIn_tupD hu pins s σ H x _ v u Q I rx ry ⟨d, ds, h1, .tup hq.sq h2, h3, h4, q⟩⟩
  | cl l =>
    obtain ⟨ad, vs, hy, hq, rl⟩ := rb
    exact lst e ⟨ad, vs, hy, hq.sq, rl⟩
  | ref n =>
    unfold inP at e
    cases z : h[n]? with
    | none => simp only [z] at e; cases e
    | some o =>
      cases o with
      | lst l =>
        simp only [z] at e
        obtain ⟨ad, hy, q⟩ := rb
        obtain ⟨a', vs, e4, e5, r'⟩ := sm.lst z
        rw [q] at e4
        cases e4
        exact lst e ⟨ad, vs, hy, SqL.of e5, r'⟩
      | dct l =>
        simp only [z] at e
        obtain ⟨k, ek, er⟩ := Option.map_eq_some_iff.mp e
        obtain ⟨ad, hy, q⟩ := rb
        obtain ⟨a', kvs, e4, e5, r'⟩ := sm.dctR z
        rw [q] at e4
        cases e4
        subst hy er
        have hx := key_rel ra ek
        subst hx
        obtain rfl : u = Value.ref ad := ry
        have ev : (valV kvs k).isSome = (valP l k).isSome := by
          rcases r'.val k with ⟨h1, h2⟩ | ⟨_, _, h1, h2, _⟩ <;> rw [h1, h2] <;> rfl
        exact ⟨fun q => d_in (by omega) I (DGet.k e5) rx fun s3 I3 => ⟨.bl _, H, I3, by rw [ev]; rfl, q⟩, fun q => d_notIn (by omega) I (DGet.k e5) rx fun s3 I3 => ⟨.bl _, H, I3, by rw [ev]; rfl, q⟩⟩
      | obj c l => simp only [z] at e; cases e
  | str z =>
    cases a with
    | str x' =>
      change signIn x' z = some r at e
      unfold signIn at e
      split at e
      · rename_i c hc
        cases e
        have ex : x' = ⟨#[c]⟩ := by
          have : x'.cps = #[c] := by
            apply Array.toList_inj.mp
            rw [hc]
          cases x'
          simp only at this
          rw [this]
        subst ex
        have h1 : x = .str ⟨#[c]⟩ := ra
        have h2 : y = .str z := rb
        exact ⟨fun q => L2.op_in_sign pins s σ H x y v u Q I rx ry ⟨c, z, h1, h2, q⟩, fun q => L2.op_notIn_sign pins s σ H x y v u Q I rx ry ⟨c, z, h1, h2, q⟩⟩
      · cases e
    | _ => cases e
  | ste l =>
    obtain ⟨k, ek, er⟩ := Option.map_eq_some_iff.mp (show ((zce a).map fun k => l.any fun j => decide (j = k)) = some r from e)
    obtain ⟨ad, hy, q, _, _⟩ := rb
    subst hy er
    have hx := key_rel ra ek
    subst hx
    exact ⟨fun z => or_sinK pins s σ H _ _ v u Q I rx ry ⟨k, ad, _, _, rfl, rfl, q, z⟩, fun z => or_snotinK pins s σ H _ _ v u Q I rx ry ⟨k, ad, _, _, rfl, rfl, q, z⟩⟩
  | _ => cases e
theorem cmp_ok (hu : X.A.units + 66 < cLine) (op : CmpOp) : OpR X (compareOp op) (rOp (zOf X) X.mg W (zbd op)) := by
  intro pins s σ H x y v u Q I rx ry hh
  obtain ⟨φ, h, a, b, sm, ra, rb, o⟩ := hh
  unfold zbd at o
  split at o
  · exact op_lt pins s σ H x y v u Q I rx ry ⟨_, _, ra, rb, o.at sm rfl⟩
  · exact op_le pins s σ H x y v u Q I rx ry ⟨_, _, ra, rb, o.at sm rfl⟩
  · exact op_gt pins s σ H x y v u Q I rx ry ⟨_, _, ra, rb, o.at sm rfl⟩
  · exact op_ge pins s σ H x y v u Q I rx ry ⟨_, _, ra, rb, o.at sm rfl⟩
  · exact op_lt_str pins s σ H x y v u Q I rx ry ⟨_, _, ra, rb, o.at sm rfl⟩
  · have q := ra.isNon
    refine op_isN pins s σ H x y v u Q I rx ry ⟨rb, ?_⟩
    rw [q]
    exact o.at sm rfl
  · have q := ra.isNon
    refine op_notN pins s σ H x y v u Q I rx ry ⟨rb, ?_⟩
    rw [q]
    exact o.at sm rfl
  · exact op_isBl pins s σ H x y v u Q I rx ry ⟨_, _, ra, rb, o.at sm rfl⟩
  · exact op_notBl pins s σ H x y v u Q I rx ry ⟨_, _, ra, rb, o.at sm rfl⟩
  · rename_i x1 y1
    have hx : x = .str x1 := ra
    have hy : y = .str y1 := rb
    subst hx hy
    refine op_eq pins s σ H _ _ v u Q I rx ry ⟨rfl, ?_⟩
    rw [dec_str]
    have := o.at sm (b := V.bl (decide (x1 = y1))) rfl
    rwa [show (x1 == y1) = decide (x1 = y1) from by rw [Bool.eq_iff_iff]; simp]
  · rename_i x1 y1
    have hx : x = .str x1 := ra
    have hy : y = .str y1 := rb
    subst hx hy
    refine op_ne pins s σ H _ _ v u Q I rx ry ⟨rfl, ?_⟩
    rw [dec_str]
    have := o.at sm (b := V.bl (!decide (x1 = y1))) rfl
    rwa [show (x1 == y1) = decide (x1 = y1) from by rw [Bool.eq_iff_iff]; simp]
  · obtain ⟨z, e, q⟩ := o.some
    obtain ⟨r, e1, e2⟩ := Option.map_eq_some_iff.mp e
    subst e2
    rcases eqP_ok sm ra rb e1 with ⟨d, e', h1, h2, h3, h4, h5⟩ | e2
    · refine op_eqD (by omega) pins s σ H x y v u Q I rx ry ⟨d, e', h1, h2, h3, h4, ?_⟩
      rw [h5]
      exact q.at sm rfl
    · exact (dEq_ok hu I rx ry sm ra rb e2).1 (q.at sm rfl)
  · obtain ⟨z, e, q⟩ := o.some
    obtain ⟨r, e1, e2⟩ := Option.map_eq_some_iff.mp e
    subst e2
    rcases eqP_ok sm ra rb e1 with ⟨d, e', h1, h2, h3, h4, h5⟩ | e2
    · refine op_neD (by omega) pins s σ H x y v u Q I rx ry ⟨d, e', h1, h2, h3, h4, ?_⟩
      rw [h5]
      exact q.at sm rfl
    · exact (dEq_ok hu I rx ry sm ra rb e2).2 (q.at sm rfl)
  · obtain ⟨z, e, q⟩ := o.some
    obtain ⟨r, e1, e2⟩ := Option.map_eq_some_iff.mp e
    subst e2
    exact (in_ok hu I rx ry sm ra rb e1).1 (q.at sm rfl)
  · obtain ⟨z, e, q⟩ := o.some
    obtain ⟨r, e1, e2⟩ := Option.map_eq_some_iff.mp e
    subst e2
    exact (in_ok hu I rx ry sm ra rb e1).2 (q.at sm rfl)
  · exact op_gt_str pins s σ H x y v u Q I rx ry ⟨_, _, ra, rb, o.at sm rfl⟩
  · exact o.elim
theorem atI_rel {K : ZZ} {φ : List Addr} {H : Hp} {l : List PV} {vs : List V} {i : Int} {p : PV} (r : RVs K φ H l vs) (e : atI l i = some p) : ∃ v, atI vs i = some v ∧ RV K φ H p v := by
  unfold atI at e ⊢
  rw [← r.length]
  cases q : ixN l.length i with
  | none => rw [q] at e; cases e
  | some j =>
    rw [q] at e
    exact r.get e
theorem ix_ok (hu : X.A.units + 1 < cLine) : IxR X (rOp (zOf X) X.mg W zcc) := by
  intro value slice pins s σ H x y v u Q I rx ry hh hs
  obtain ⟨φ, h, a, b, sm, ra, rb, o⟩ := hh
  unfold zcc at o
  split at o
  · split at o
    · rename_i hm
      split at o
      · rename_i c e
        exact ix_str value slice pins s σ H x y v u Q I rx ry ⟨_, _, c, ra, rb, line_ok hm, e, o.at sm rfl⟩ hs
      · exact o.elim
    · exact o.elim
  · rename_i n i _
    split at o
    · rename_i l e
      split at o
      · obtain ⟨p, e1, q⟩ := o.some
        obtain ⟨ad, vs, hx, hq, r⟩ := sm.listV (l := l) ra (by simp only [listOf, e])
        obtain ⟨w, e2, rw'⟩ := atI_rel r e1
        exact ix_list value slice pins s σ H x y v u Q I rx ry ⟨ad, vs, _, w, hx, rb, hq, e2, q.at sm rw'⟩ hs
      · exact o.elim
    · rename_i l e
      split at o
      · rename_i k ek
        obtain ⟨p, e1, q⟩ := o.some
        obtain ⟨ad, hx, qq⟩ := ra
        obtain ⟨a', kvs, e4, e5, r'⟩ := sm.dctR e
        rw [qq] at e4
        cases e4
        have hy := key_rel rb ek
        subst hx hy
        obtain rfl : v = Value.ref ad := rx
        rcases r'.val k with ⟨h1, h2⟩ | ⟨p', v', h1, h2, h3⟩
        · rw [h1] at e1
          cases e1
        · rw [h1] at e1
          cases e1
          have g : DGet H ad (kV k) (some v') := by
            rw [← h2]
            exact DGet.k e5
          exact tail_any (dict_typeIs I g) PySem.F.slot_dict_getitem.lookup (d_getItem hu I g ry fun w' s3 I3 rw' => ⟨v', H, I3, rw', q.at sm h3⟩) hs
      · exact o.elim
    · exact o.elim
  · obtain ⟨p, e1, q⟩ := o.some
    obtain ⟨ad, vs, hx, hq, r⟩ := ra
    obtain ⟨w, e2, rw'⟩ := atI_rel r e1
    exact ix_tup value slice pins s σ H x y v u Q I rx ry ⟨ad, vs, _, w, hx, rb, hq.sq, e2, q.at sm rw'⟩ hs
  · obtain ⟨p, e1, q⟩ := o.some
    obtain ⟨ad, vs, hx, hq, r⟩ := ra
    obtain ⟨w, e2, rw'⟩ := atI_rel r e1
    exact ix_list value slice pins s σ H x y v u Q I rx ry ⟨ad, vs, _, w, hx, rb, hq.sq, e2, q.at sm rw'⟩ hs
  · exact o.elim
def rSetP (K : ZZ) (mg : Str → Option Value) : TSet := fun o i v H Q => ∃ φ h a b c h', Sim K φ h H ∧ RV K φ H a o ∧ RV K φ H b i ∧ RV K φ H c v ∧ setop a b c h = some h' ∧ ∀ H', Ext φ φ H H' → Sim K φ h' H' → Q H'
theorem set_ok (hu : X.A.units + 1 < cLine) : PSet X (rSetP (zOf X) X.mg) := by
  intro pins s σ H o i v ov iv u Q I ro ri rv hh
  obtain ⟨φ, h, a, b, c, h', sm, ra, rb, rc, e, q⟩ := hh
  unfold setop at e
  split at e
  · rename_i n
    split at e
    · rename_i l e1
      split at e
      · rename_i k
        split at e
        · rename_i j e2
          cases e
          obtain ⟨ad, vs, f1, g1, r1⟩ := sm.lst e1
          obtain ⟨b1, hx, q1⟩ := ra
          rw [f1] at q1
          cases q1
          refine set_list pins s σ H o i v ov iv u Q I ro ri rv ⟨ad, vs, k, j, hx, rb, g1, by rw [← r1.length]; exact e2, ?_⟩
          exact q _ (Ext.write sm (List.mem_of_getElem? f1)) (sm.write f1 (r1.set j rc))
        · cases e
      · cases e
    · rename_i l e1
      split at e
      · rename_i k ek
        split at e
        · rename_i hm
          cases e
          obtain ⟨ad, kvs, f1, g1, r1⟩ := sm.dctR e1
          obtain ⟨b1, hx, q1⟩ := ra
          rw [f1] at q1
          cases q1
          have hi := key_rel rb ek
          subst hx hi
          obtain rfl : ov = Value.ref ad := ro
          exact d_setItem hu I (DPut.k g1 (by rw [← r1.length]; exact line_lt hm)) ri rv fun s4 I4 => ⟨_, I4, q _ (Ext.write sm (List.mem_of_getElem? f1)) (sm.writeD f1 (r1.put k rc))⟩
        · cases e
      · cases e
    · cases e
  · cases e
theorem tru_of {K : ZZ} {φ : List Addr} {h : PH} {H : Hp} {a : PV} {x : V} {b : Bool} (sm : Sim K φ h H) (r : RV K φ H a x) (e : truthy h a = some b) : TruV K.K x H b := by
  cases a with
  | non => rw [show x = .non from r]; cases e; rfl
  | bl c => rw [show x = .bl c from r]; cases e; rfl
  | int i => rw [show x = .int i from r]; cases e; rfl
  | str z =>
    rw [show x = .str z from r]
    simp only [truthy] at e
    split at e
    · rename_i hm
      cases e
      refine ⟨line_ok hm, ?_⟩
      by_cases q : 0 < z.length
      · rw [decide_eq_true q]
        exact (by simp; omega)
      · rw [decide_eq_false q]
        have : z.length = 0 := by omega
        rw [this]
        rfl
    · cases e
  | ty t => cases e
  | cls t => cases e
  | xc t ns vs => cases e
  | ste l => cases e
  | tup l =>
    obtain ⟨ad, vs, e1, q, r'⟩ := r
    cases e
    subst e1
    refine .inr (.inl ⟨vs, q.sq, ?_⟩)
    cases l with
    | nil => rw [show vs = [] from r']; rfl
    | cons p l => obtain ⟨v, t, e2, _⟩ := r'; rw [e2]; rfl
  | cl l =>
    obtain ⟨ad, vs, e1, q, r'⟩ := r
    cases e
    subst e1
    refine .inl ⟨vs, q.sq, ?_⟩
    cases l with
    | nil => rw [show vs = [] from r']; rfl
    | cons p l => obtain ⟨v, t, e2, _⟩ := r'; rw [e2]; rfl
  | ref n =>
    obtain ⟨ad, e1, q⟩ := r
    subst e1
    unfold truthy at e
    cases z : h[n]? with
    | none => simp only [z] at e; cases e
    | some o =>
      cases o with
      | lst l =>
        simp only [z] at e
        cases e
        obtain ⟨a', vs, e4, e5, r'⟩ := sm.lst z
        rw [q] at e4
        cases e4
        refine .inl ⟨vs, SqL.of e5, ?_⟩
        cases l with
        | nil => rw [show vs = [] from r']; rfl
        | cons p l => obtain ⟨v, t, e2, _⟩ := r'; rw [e2]; rfl
      | dct l =>
        simp only [z] at e
        cases e
        obtain ⟨a', kvs, e4, e5, ek, r'⟩ := sm.dct z
        rw [q] at e4
        cases e4
        refine .inr (.inr ⟨kvs, e5, ?_⟩)
        cases l with
        | nil => rw [show kvs = [] from List.map_eq_nil_iff.mp ek]; rfl
        | cons p l =>
          cases kvs with
          | nil => cases ek
          | cons x y => rfl
      | obj c l => simp only [z] at e; cases e
end
end
end Sb
namespace Sb
open PySem PySem.Spec PyProof.Rows L2
def rCa (K : ZZ) (mg : Str → Option Value) (W : XK) (f : List PV → PH → R PV) : List V → Hp → VK → Prop := fun vs H Q => ∃ φ h ps, Sim K φ h H ∧ RVs K φ H ps vs ∧ Out K mg (RV K) φ H W Q (f ps h)
theorem RVs.one {K : ZZ} {φ : List Addr} {H : Hp} {p : PV} {vs : List V} (r : RVs K φ H [p] vs) : ∃ v, vs = [v] ∧ RV K φ H p v := by
  obtain ⟨v, t, e, q, s⟩ := r
  have : t = [] := s
  subst this
  exact ⟨v, e, q⟩
theorem RVs.two {K : ZZ} {φ : List Addr} {H : Hp} {p q : PV} {vs : List V} (r : RVs K φ H [p, q] vs) : ∃ v w, vs = [v, w] ∧ RV K φ H p v ∧ RV K φ H q w := by
  obtain ⟨v, t, e, q, s⟩ := r
  obtain ⟨w, e2, q2⟩ := RVs.one s
  subst e2
  exact ⟨v, w, e, q, q2⟩
theorem kit_all (s t : Ty) : kitB s.nm t.nm = some (isTy s t) := by
  cases s <;> cases t <;> decide +kernel
theorem tyx_of {K : ZZ} {φ : List Addr} {h : PH} {H : Hp} {a : PV} {x : V} {t : Ty} (sm : Sim K φ h H) (r : RV K φ H a x) (e : tyOf h a = some t) : TyX K.K H x (.type t.nm) := by
  cases a with
  | non => rw [show x = .non from r]; cases e; exact .base .non
  | bl c => rw [show x = .bl c from r]; cases e; exact .base (.bl c)
  | int i => rw [show x = .int i from r]; cases e; exact .base (.int i)
  | str z => rw [show x = .str z from r]; cases e; exact .base (.str z)
  | ty t => cases e
  | cls t => cases e
  | xc t ns vs => cases e
  | ste l => cases e
  | tup l =>
    obtain ⟨ad, vs, e1, q, r'⟩ := r
    cases e
    subst e1
    rcases q with ⟨q | ⟨o, q⟩, _⟩ | ⟨o, its, n, q1, q2, _⟩
    · exact .base (.tup q)
    · exact .fTuple q
    · exact .kTuple q1 q2
  | cl l =>
    obtain ⟨ad, vs, e1, q, r'⟩ := r
    cases e
    subst e1
    rcases q with ⟨⟨o, q⟩, _⟩ | ⟨o, its, n, q1, q2, _⟩
    · exact .base (.frz q)
    · exact .kList q1 q2
  | ref n =>
    obtain ⟨ad, e1, q⟩ := r
    subst e1
    unfold tyOf at e
    cases z : h[n]? with
    | none => simp only [z] at e; cases e
    | some o =>
      cases o with
      | lst l =>
        simp only [z] at e
        cases e
        obtain ⟨a', vs, e4, e5, r'⟩ := sm.lst z
        rw [q] at e4
        cases e4
        exact .base (.lst e5)
      | dct l =>
        simp only [z] at e
        cases e
        obtain ⟨a', kvs, e4, e5, ek, r'⟩ := sm.dct z
        rw [q] at e4
        cases e4
        exact .base (.dK e5)
      | obj c l => simp only [z] at e; cases e
theorem bools_rel {K : ZZ} {φ : List Addr} {H : Hp} : ∀ {l : List PV} {vs : List V} {bs : List Bool}, RVs K φ H l vs → boolsOf l = some bs → vs = bs.map V.bl
  | [], vs, bs, r, e => by
    have : vs = [] := r
    subst this
    cases e
    rfl
  | p :: l, vs, bs, r, e => by
    obtain ⟨v, t, e1, q, s⟩ := r
    cases p with
    | bl b =>
      obtain ⟨bs', e2, e3⟩ := Option.map_eq_some_iff.mp (show (boolsOf l).map (b :: ·) = some bs from e)
      rw [← e3, e1, bools_rel s e2, show v = .bl b from q]
      rfl
    | _ => cases e
theorem tys_rel {K : ZZ} {φ : List Addr} {H : Hp} : ∀ {l : List PV} {vs : List V} {ts : List Ty}, RVs K φ H l vs → tysOf l = some ts → Paired ClsV vs (ts.map fun t => Value.type t.nm)
  | [], vs, bs, r, e => by
    have : vs = [] := r
    subst this
    cases e
    exact .nil
  | p :: l, vs, bs, r, e => by
    obtain ⟨v, t, e1, q, s⟩ := r
    cases p with
    | ty b =>
      obtain ⟨bs', e2, e3⟩ := Option.map_eq_some_iff.mp (show (tysOf l).map (b :: ·) = some bs from e)
      rw [← e3, e1, show v = .ty b.nm from q]
      exact .cons (.ty b.nm) (tys_rel s e2)
    | _ => cases e
theorem kit_any {K : PySem.W.Frag} (s : Ty) : ∀ ts : List Ty, PySem.W.kitAny K (.type s.nm) (ts.map fun t => Value.type t.nm) = some (ts.any (isTy s))
  | [] => kitAny_nil
  | t :: ts => by
    rw [List.map_cons, List.any_cons]
    refine kitAny_cons (b := isTy s t) (kit_ty (kit_all s t)) (fun e => ?_) fun e => ?_
    · rw [e, Bool.false_or]
      exact kit_any s ts
    · rw [e]
      rfl
section
variable {X : Cx} {W : XK}
theorem bi_abs : CallR X (.builtin "abs") (rCa (zOf X) X.mg W biAbs) := by
  intro pins s σ H vs us Q I rv hh
  obtain ⟨φ, h, ps, sm, r, o⟩ := hh
  unfold biAbs at o
  split at o
  · rename_i i
    obtain ⟨v, e, q⟩ := r.one
    subst e
    exact call_abs pins s σ H _ us Q I rv ⟨i, by rw [show v = .int i from q], o.at sm rfl⟩
  · exact o.elim
theorem bi_len : CallR X (.builtin "len") (rCa (zOf X) X.mg W biLen) := by
  intro pins s σ H vs us Q I rv hh
  obtain ⟨φ, h, ps, sm, r, o⟩ := hh
  unfold biLen at o
  split at o
  · rename_i z
    obtain ⟨v, e, q⟩ := r.one
    subst e
    split at o
    · rename_i hm
      exact call_len pins s σ H _ us Q I rv ⟨v, z.length, rfl, by rw [show v = .str z from q]; exact ⟨line_ok hm, rfl⟩, o.at sm rfl⟩
    · exact o.elim
  · rename_i n
    obtain ⟨v, e, q⟩ := r.one
    subst e
    split at o
    · rename_i l e1
      obtain ⟨ad, vs, hx, hq, r'⟩ := sm.listV (l := l) q (by simp only [listOf, e1])
      refine call_len_seq pins s σ H _ us Q I rv ⟨ad, vs, by rw [hx], .inl hq, ?_⟩
      rw [← r'.length]
      exact o.at sm rfl
    · rename_i l e1
      obtain ⟨ad, hx, qq⟩ := q
      obtain ⟨a', kvs, e4, e5, r'⟩ := sm.dctR e1
      rw [qq] at e4
      cases e4
      refine call_lenD pins s σ H _ us Q I rv ⟨ad, kvs, by rw [hx], e5, ?_⟩
      rw [← r'.length]
      exact o.at sm rfl
    · exact o.elim
  · rename_i l
    obtain ⟨v, e, q⟩ := r.one
    subst e
    obtain ⟨ad, vs, hx, hq, r'⟩ := q
    refine call_len_seq pins s σ H _ us Q I rv ⟨ad, vs, by rw [hx], .inr hq.sq, ?_⟩
    rw [← r'.length]
    exact o.at sm rfl
  · rename_i l
    obtain ⟨v, e, q⟩ := r.one
    subst e
    obtain ⟨ad, vs, hx, hq, r'⟩ := q
    refine call_len_seq pins s σ H _ us Q I rv ⟨ad, vs, by rw [hx], .inl hq.sq, ?_⟩
    rw [← r'.length]
    exact o.at sm rfl
  · exact o.elim
theorem bi_all (hc : X.calm = true) : CallR X (.builtin "all") (rCa (zOf X) X.mg W biAll) := by
  intro pins s σ H vs us Q I rv hh
  obtain ⟨φ, h, ps, sm, r, o⟩ := hh
  unfold biAll at o
  split at o
  · obtain ⟨v, e, q⟩ := r.one
    subst e
    split at o
    · rename_i bs e1
      obtain ⟨l, e2, e3⟩ := Option.bind_eq_some_iff.mp e1
      obtain ⟨ad, vs, hx, hq, r'⟩ := sm.listV q e2
      rw [bools_rel r' e3] at hq
      exact cr_all hc pins s σ H _ us Q I rv ⟨ad, bs, by rw [hx], hq, o.at sm rfl⟩
    · exact o.elim
  · exact o.elim
theorem zaz : CallR X (.builtin "isinstance") (rCa (zOf X) X.mg W zbh) := by
  intro pins s σ H vs us Q I rv hh
  obtain ⟨φ, h, ps, sm, r, o⟩ := hh
  unfold zbh at o
  split at o
  · rename_i a t
    obtain ⟨v, w, e, q, q2⟩ := r.two
    subst e
    split at o
    · rename_i ts e1
      exact call_isi pins s σ H _ us Q I rv ⟨v, .ty t.nm, _, _, _, by rw [show w = .ty t.nm from q2], .ty t.nm, tyx_of sm q e1, kit_ty (kit_all ts t), o.at sm rfl⟩
    · exact o.elim
  · rename_i a l
    obtain ⟨v, w, e, q, q2⟩ := r.two
    subst e
    split at o
    · rename_i ts tl e1 e2
      obtain ⟨ad, vs, hx, hq, r'⟩ := q2
      subst hx
      rcases hq with ⟨hq | ⟨ob, hq⟩, _⟩ | hq
      · exact call_isiT pins s σ H _ us Q I rv ⟨v, ad, vs, _, _, _, rfl, hq, tys_rel r' e2, tyx_of sm q e1, kit_any ts tl, o.at sm rfl⟩
      · exact isiF pins s σ H _ us Q I rv ⟨v, ad, ob, vs, _, _, _, rfl, hq, tys_rel r' e2, tyx_of sm q e1, kit_any ts tl, o.at sm rfl⟩
      · exact isiKT pins s σ H _ us Q I rv ⟨v, ad, vs, _, _, _, rfl, hq, tys_rel r' e2, tyx_of sm q e1, kit_any ts tl, o.at sm rfl⟩
    · exact o.elim
  · exact o.elim
where
  isiF : CallR X (.builtin "isinstance") (fun xs H Q => ∃ (x : V) (tp : Addr) (ob : Obj) (cs : List V) (t : Value) (us : List Value) (b : Bool), xs = [x, .ref tp] ∧ H tp = some (.frz ob (.tup cs)) ∧ Paired ClsV cs us ∧ TyX X.K H x t ∧ PySem.W.kitAny X.K t us = some b ∧ Q (.bl b) H) := by
    intro pins s σ H xs us Q I r h
    obtain ⟨x, tp, ob, cs, t, ws, b, rfl, hT, k, ty, e, q⟩ := h
    obtain ⟨u1, u2, rfl, r1, r2⟩ := vals2 r
    cases (show u2 = Value.ref tp from r2)
    obtain ⟨P, Z, p, hx⟩ := kit_of I r1 ty
    obtain ⟨_, _, its, rv, o, h1, h2, n, h3⟩ := (show ObjOk X.prog X.w H s.heap tp (.frz ob (.tup cs)) from I.hok tp _ hT)
    have e3 := ClsV.all k rv
    subst e3
    obtain ⟨oc, od, dt, sl⟩ := o
    simp only at h2 h3
    subst h2 h3
    exact PySem.W.kia_tup Z I.kIn p h1 e hx fun tk => ⟨.bl b, H, I.tok tk, rfl, q⟩
  isiKT : CallR X (.builtin "isinstance") (fun xs H Q => ∃ (x : V) (tp : Addr) (cs : List V) (t : Value) (us : List Value) (b : Bool), xs = [x, .ref tp] ∧ KT X.K tp cs ∧ Paired ClsV cs us ∧ TyX X.K H x t ∧ PySem.W.kitAny X.K t us = some b ∧ Q (.bl b) H) := by
    intro pins s σ H xs us Q I r h
    obtain ⟨x, tp, cs, t, ws, b, rfl, ⟨o, its, n, h1, h2, h3, hz, rv⟩, k, ty, e, q⟩ := h
    obtain ⟨u1, u2, rfl, r1, r2⟩ := vals2 r
    cases (show u2 = Value.ref tp from r2)
    obtain ⟨P, Z, p, hx⟩ := kit_of I r1 ty
    have e3 := ClsV.all k rv
    obtain ⟨oc, od, dt, sl⟩ := o
    simp only at h2 h3
    subst h2 h3
    have e4 : its = ws.toArray := by rw [← e3]
    subst e4
    exact PySem.W.kia_tup Z I.kIn p (I.kIn _ _ h1) e hx fun tk => ⟨.bl b, H, I.tok tk, rfl, q⟩
theorem strs_rel {K : ZZ} {φ : List Addr} {H : Hp} : ∀ {l : List PV} {vs : List V} {xs : List Str}, RVs K φ H l vs → zcy l = some xs → vs = xs.map V.str
  | [], vs, bs, r, e => by
    have : vs = [] := r
    subst this
    cases e
    rfl
  | p :: l, vs, bs, r, e => by
    obtain ⟨v, t, e1, q, s⟩ := r
    cases p with
    | str b =>
      obtain ⟨bs', e2, e3⟩ := Option.map_eq_some_iff.mp (show (zcy l).map (b :: ·) = some bs from e)
      rw [← e3, e1, strs_rel s e2, show v = .str b from q]
      rfl
    | _ => cases e
theorem ints_rel {K : ZZ} {φ : List Addr} {H : Hp} : ∀ {l : List PV} {vs : List V} {xs : List Int}, RVs K φ H l vs → intsOf l = some xs → vs = xs.map V.int
  | [], vs, bs, r, e => by
    have : vs = [] := r
    subst this
    cases e
    rfl
  | p :: l, vs, bs, r, e => by
    obtain ⟨v, t, e1, q, s⟩ := r
    cases p with
    | int b =>
      obtain ⟨bs', e2, e3⟩ := Option.map_eq_some_iff.mp (show (intsOf l).map (b :: ·) = some bs from e)
      rw [← e3, e1, ints_rel s e2, show v = .int b from q]
      rfl
    | _ => cases e
theorem strs_rv {K : ZZ} {φ : List Addr} {H : Hp} : ∀ xs : List Str, RVs K φ H (xs.map PV.str) (xs.map V.str)
  | [] => rfl
  | x :: xs => RVs.cons rfl (strs_rv xs)
theorem ints_rv {K : ZZ} {φ : List Addr} {H : Hp} : ∀ xs : List Int, RVs K φ H (xs.map PV.int) (xs.map V.int)
  | [] => rfl
  | x :: xs => RVs.cons rfl (ints_rv xs)
theorem leStr_iff {x y : Str} : leStr x y = true ↔ ¬ y.cps.toList < x.cps.toList := by
  unfold leStr ltStr
  simp
theorem leStr_trans (a b c : Str) (h1 : leStr a b = true) (h2 : leStr b c = true) : leStr a c = true := by
  rw [leStr_iff] at h1 h2 ⊢
  rw [List.not_lt] at h1 h2 ⊢
  exact List.le_trans h1 h2
theorem leStr_total (a b : Str) : (leStr a b || leStr b a) = true := by
  rw [Bool.or_eq_true, leStr_iff, leStr_iff, List.not_lt, List.not_lt]
  exact List.le_total _ _
theorem leStr_anti {a b : Str} (h1 : leStr a b = true) (h2 : leStr b a = true) : a = b := by
  rw [leStr_iff, List.not_lt] at h1 h2
  have e : a.cps.toList = b.cps.toList := List.le_antisymm h1 h2
  cases a with
  | mk x =>
    cases b with
    | mk y => exact congrArg Str.mk (Array.toList_inj.mp e)
theorem rising_pair : ∀ {l : List Str} {p : Str}, risingS p l = true → (p :: l).Pairwise fun a b => leStr a b = true
  | [], p, _ => by simp
  | x :: r, p, h => by
    have h' : (!ltCps x.cps.toList p.cps.toList && risingS x r) = true := h
    obtain ⟨h1, h2⟩ := Bool.and_eq_true_iff.mp h'
    have ih := rising_pair h2
    have h3 : leStr p x = true := by
      rw [leStr_iff]
      rw [ltCps_eq] at h1
      simpa using h1
    rw [List.pairwise_cons]
    refine ⟨fun b hb => ?_, ih⟩
    rcases List.mem_cons.mp hb with rfl | hb
    · exact h3
    · exact leStr_trans _ _ _ h3 ((List.pairwise_cons.mp ih).1 b hb)
theorem sortedS_pair {l : List Str} (h : sortedS l = true) : l.Pairwise fun a b => leStr a b = true := by
  cases l with
  | nil => simp
  | cons x r => exact rising_pair h
theorem sortS_eq {ys xs : List Str} (p : ys.Perm xs) (h : sortedS ys = true) : ys = sortS xs := by
  refine (p.trans (List.mergeSort_perm xs leStr).symm).eq_of_pairwise (fun a b _ _ h1 h2 => leStr_anti h1 h2) (sortedS_pair h) ?_
  exact List.pairwise_mergeSort leStr_trans leStr_total xs
theorem sortI_eq {ys xs : List Int} (p : ys.Perm xs) (h : ys.Pairwise (· ≤ ·)) : ys = sortI xs := by
  refine (p.trans (List.mergeSort_perm xs _).symm).eq_of_pairwise (fun a b _ _ h1 h2 => Int.le_antisymm h1 h2) h ?_
  have := List.pairwise_mergeSort (le := fun a b : Int => decide (a ≤ b)) (fun a b c h1 h2 => by simp at *; omega) (fun a b => by simp; omega) xs
  exact this.imp fun h => by simpa using h
theorem vals1' {x : V} {us : List Value} (r : Vals [x] us) : ∃ u, us = [u] ∧ RelV x u := by
  cases r with
  | cons r1 r2 =>
    cases r2
    exact ⟨_, rfl, r1⟩
theorem mapO_len {α β : Type} {f : α → Option β} : ∀ {l : List α} {k : List β}, mapO f l = some k → k.length = l.length
  | [], k, e => by cases e; rfl
  | a :: r, k, e => by
    unfold mapO at e
    split at e
    · rename_i b s e1 e2
      cases e
      simp [mapO_len e2]
    · cases e
theorem depth_mem {d : PyData} : ∀ {ds : List PyData}, d ∈ ds → d.depth ≤ PyData.depthAll ds
  | [], h => by cases h
  | e :: r, h => by
    unfold PyData.depthAll
    rcases List.mem_cons.mp h with rfl | h
    · omega
    · have := depth_mem h
      omega
theorem each_of {pins : List (Addr × Obj)} {s : Shared} {σ : L2.St} {φ : List Addr} {h : PH} {H : Hp} (I : Inv X pins σ H s) (sm : Sim (zOf X) φ h H) : ∀ {l : List PV} {vs : List V} {us : List Value} {ds : List PyData}, RVs (zOf X) φ H l vs → Vals vs us → mapO (pd h 8) l = some ds →
    PySem.W.EachIs (fun (u : Value) (b : PV × PyData) => ∃ v, RelV v u ∧ RV (zOf X) φ H b.1 v) us (l.zip ds) ∧ PySem.W.EachIs (fun (u : Value) (b : PV × PyData) => ∃ as, PySem.Reads s.heap u b.2 as) us (l.zip ds)
  | [], vs, us, ds, r, rv, e => by
    cases e
    have : vs = [] := by
      have := r.length
      cases vs with
      | nil => rfl
      | cons _ _ => simp at this
    subst this
    cases rv
    exact ⟨.nil, .nil⟩
  | p :: l, vs, us, ds, r, rv, e => by
    unfold mapO at e
    split at e
    · rename_i d ds' e1 e2
      cases e
      obtain ⟨v, t, rfl, r1, r2⟩ := r
      cases rv with
      | cons u1 u2 =>
        obtain ⟨f1, f2⟩ := each_of I sm r2 u2 e2
        obtain ⟨as, rd⟩ := Dp.reads I d v _ (dp_of sm 8 p v d r1 e1) u1
        exact ⟨.cons ⟨v, u1, r1⟩ f1, .cons ⟨as, rd⟩ f2⟩
    · cases e
theorem each_vals {K : ZZ} {φ : List Addr} {H : Hp} : ∀ {us : List Value} {bs : List (PV × PyData)}, PySem.W.EachIs (fun (u : Value) (b : PV × PyData) => ∃ v, RelV v u ∧ RV K φ H b.1 v) us bs → ∃ xs, Vals xs us ∧ RVs K φ H (bs.map Prod.fst) xs
  | _, _, .nil => ⟨[], .nil, RVs.nil⟩
  | _, _, .cons ⟨v, r1, r2⟩ t => by
    obtain ⟨xs, a, b⟩ := each_vals t
    exact ⟨v :: xs, .cons r1 a, RVs.cons r2 b⟩
theorem bi_sorted (hc : X.calm = true) (hu : X.A.units + 66 < cLine) : CallR X (.builtin "sorted") (rCa (zOf X) X.mg W biSorted) := by
  intro pins s σ H vs us Q I rv hh
  obtain ⟨φ, h, ps, sm, r, o⟩ := hh
  unfold biSorted at o
  split at o
  · rename_i n
    obtain ⟨v, e, q⟩ := r.one
    subst e
    split at o
    · rename_i l e1
      obtain ⟨ad, vs, hx, hq, r'⟩ := sm.listV (l := l) q (by simp only [listOf, e1])
      split at o
      · rename_i xs e2
        split at o
        · rename_i hl
          rw [strs_rel r' e2] at hq
          refine cr_sortedS pins s σ H _ us Q I rv ⟨ad, xs, by rw [hx], hq, hl, fun ys p h1 h2 np => ?_⟩
          rw [sortS_eq h1 h2]
          exact o.alloc sm (strs_rv _) p np
        · exact o.elim
      · rename_i xs e2 _
        split at o
        · rename_i hl
          rw [ints_rel r' e2] at hq
          refine cr_sorted pins s σ H _ us Q I rv ⟨ad, xs, by rw [hx], hq, hl, fun ys p h1 h2 np => ?_⟩
          rw [sortI_eq h1 h2]
          exact o.alloc sm (ints_rv _) p np
        · exact o.elim
      · split at o
        · rename_i ds e3
          split at o
          · rename_i hok
            obtain ⟨its, rv', hl, hz⟩ := I.list hq
            obtain ⟨u, rfl, ru⟩ := vals1' rv
            rw [hx] at ru
            obtain rfl : u = Value.ref ad := ru
            unfold sortableD at hok
            obtain ⟨k1, k2⟩ := Bool.and_eq_true_iff.mp hok
            obtain ⟨k2, k3⟩ := Bool.and_eq_true_iff.mp k2
            have k3 := of_decide_eq_true k3
            have el : ds.length = l.length := mapO_len e3
            obtain ⟨E1, E2⟩ := each_of I sm r' rv' e3
            have mp : (l.zip ds).map Prod.snd = ds := List.map_snd_zip (by omega)
            refine PySem.W.sorted_data (bs := l.zip ds) (enc := Prod.snd) hl.isList E1 E2 ?_ ?_ ?_ ?_ fun out hlo eo => ?_
            · rw [mp]
              intro d hd d' hd'
              exact List.all_eq_true.mp (List.all_eq_true.mp k1 d hd) d' hd'
            · rw [mp]
              refine .inl fun d hd => ?_
              have := List.all_eq_true.mp k2 d hd
              unfold isTupD at this
              split at this
              · rename_i x r
                exact ⟨x, r, rfl⟩
              · cases this
            · rw [List.length_zip, sizeLine_eq]
              omega
            · intro b hb
              have hm : b.2 ∈ ds := by
                have : b.2 ∈ (l.zip ds).map Prod.snd := List.mem_map.mpr ⟨b, hb, rfl⟩
                rwa [mp] at this
              have := (pds_shape 8 l ds e3).2
              have := depth_mem hm
              omega
            · obtain ⟨xs, ro, rx⟩ := each_vals eo
              obtain ⟨ep, he'⟩ := PyProof.Rows.sortedAll_at s.heap its (List.toArray out)
              have hlen : xs.length ≤ sizeLine := by
                rw [ro.length, hlo, List.length_zip, sizeLine_eq]
                omega
              have np := I.hok.fresh (Nat.le_succ s.heap.objs.size)
              exact ⟨.ref _, upd H (s.heap.objs.size + 1) (.lst xs), I.laid (t' := s.toks) (fun _ _ => PyProof.Rows.sortedAll_old) (Nat.le_succ _) ⟨hlen, out, ep, ro, he'⟩, rfl, o.alloc sm rx _ np⟩
          · exact o.elim
        · exact o.elim
    · rename_i l e1
      split at o
      · rename_i xs e2
        split at o
        · rename_i hl
          obtain ⟨ad, hx, qq⟩ := q
          obtain ⟨a', kvs, e4, e5, r'⟩ := sm.dctR e1
          rw [qq] at e4
          cases e4
          have ek : kvs.map (·.1) = xs.map Sum.inr := by
            rw [r'.1]
            have key : ∀ (l : List (Key × PV)) (xs : List Str), zcy (l.map fun kv => keyP kv.1) = some xs → l.map (·.1) = xs.map Sum.inr := by
              intro l
              induction l with
              | nil => intro xs e; cases e; rfl
              | cons kv l ih =>
                intro xs e
                obtain ⟨k, p⟩ := kv
                cases k with
                | inl i => cases e
                | inr x =>
                  obtain ⟨bs', e2, e3⟩ := Option.map_eq_some_iff.mp (show (zcy (l.map fun kv => keyP kv.1)).map (x :: ·) = some xs from e)
                  rw [← e3, List.map_cons, List.map_cons, ih _ e2]
            exact key l xs e2
          refine call_sortedD hc pins s σ H _ us Q I rv ⟨ad, kvs, xs, by rw [hx], .inl e5, ek, hl, fun ys p h1 h2 np => ?_⟩
          rw [sortS_eq h1 h2]
          exact o.alloc sm (strs_rv _) p np
        · exact o.elim
      · exact o.elim
    · exact o.elim
  · exact o.elim
theorem bi_int : CallR X (.type "int") (rCa (zOf X) X.mg W biInt) := by
  intro pins s σ H vs us Q I rv hh
  obtain ⟨φ, h, ps, sm, r, o⟩ := hh
  unfold biInt at o
  split at o
  · rename_i i
    obtain ⟨v, e, q⟩ := r.one
    subst e
    exact call_int1 pins s σ H _ us Q I rv (.inl ⟨i, by rw [show v = .int i from q], o.at sm rfl⟩)
  · rename_i b
    obtain ⟨v, e, q⟩ := r.one
    subst e
    exact call_int1 pins s σ H _ us Q I rv (.inr ⟨b, by rw [show v = .bl b from q], o.at sm rfl⟩)
  · exact o.elim
theorem bi_min2 (hc : X.calm = true) : CallR X (.builtin "min") (rCa (zOf X) X.mg W biMin2) := by
  intro pins s σ H vs us Q I rv hh
  obtain ⟨φ, h, ps, sm, r, o⟩ := hh
  unfold biMin2 at o
  split at o
  · rename_i i j
    obtain ⟨v, w, e, q, q2⟩ := r.two
    subst e
    exact call_min2 hc pins s σ H _ us Q I rv ⟨i, j, by rw [show v = .int i from q, show w = .int j from q2], o.at sm rfl⟩
  · rename_i n
    obtain ⟨v, e, q⟩ := r.one
    subst e
    split at o
    · rename_i l e1
      split at o
      · rename_i m e2
        obtain ⟨xs, e3, e4⟩ := Option.bind_eq_some_iff.mp e2
        obtain ⟨ad, vs, hx, hq, r'⟩ := sm.listV (l := l) q (by simp only [listOf, e1])
        rw [ints_rel r' e3] at hq
        have hm := List.min?_eq_some_iff.mp e4
        refine cr_min hc pins s σ H _ us Q I rv ⟨ad, xs, by rw [hx], hq, List.length_pos_of_mem hm.1, fun m' h1 h2 => ?_⟩
        have : m' = m := Int.le_antisymm (h2 m hm.1) (hm.2 m' h1)
        rw [this]
        exact o.at sm rfl
      · exact o.elim
    · exact o.elim
  · exact o.elim
def rMt (K : ZZ) (mg : Str → Option Value) (W : XK) (f : PV → List PV → PH → R PV) : V → List V → Hp → VK → Prop := fun x vs H Q => ∃ φ h p ps, Sim K φ h H ∧ RV K φ H p x ∧ RVs K φ H ps vs ∧ Out K mg (RV K) φ H W Q (f p ps h)
theorem zb9 : MtR X "list.append" (rMt (zOf X) X.mg W mtAppend) := by
  intro pins s σ H x xs v us Q I rx rs hh
  obtain ⟨φ, h, p, ps, sm, r, r2, o⟩ := hh
  unfold mtAppend at o
  split at o
  · rename_i n a
    split at o
    · rename_i l e1
      split at o
      · rename_i hm
        obtain ⟨ad, vs, f1, g1, r1⟩ := sm.lst e1
        obtain ⟨b1, hx, q1⟩ := r
        rw [f1] at q1
        cases q1
        obtain ⟨w, e, q⟩ := r2.one
        subst e
        refine mt_append pins s σ H x _ v us Q I rx rs ⟨ad, vs, w, hx, rfl, g1, by rw [← r1.length]; exact line_lt hm, ?_⟩
        exact o φ _ _ (Ext.write sm (List.mem_of_getElem? f1)) (sm.write f1 (r1.append (RVs.cons q RVs.nil))) rfl
      · exact o.elim
    · exact o.elim
  · exact o.elim
theorem mt_popAt_ok : MtR X "list.pop" (rMt (zOf X) X.mg W mtPopAt) := by
  intro pins s σ H x xs v us Q I rx rs hh
  obtain ⟨φ, h, p, ps, sm, r, r2, o⟩ := hh
  unfold mtPopAt at o
  split at o
  · rename_i n i
    split at o
    · rename_i l e1
      split at o
      · rename_i hm
        split at o
        · rename_i w e2
          obtain ⟨ad, vs, f1, g1, r1⟩ := sm.lst e1
          obtain ⟨b1, hx, q1⟩ := r
          rw [f1] at q1
          cases q1
          obtain ⟨z, e, q⟩ := r2.one
          subst e
          obtain ⟨y, e3, ry⟩ := r1.get e2
          have hlt : i.toNat < vs.length := (List.getElem?_eq_some_iff.mp e3).1
          have hz : vs.length ≤ sizeLine := by
            obtain ⟨hz, _⟩ := (show ObjOk X.prog X.w H s.heap ad (.lst vs) from I.hok ad _ g1)
            exact hz
          have hs := sizeLine_eq
          refine mt_popAt pins s σ H x _ v us Q I rx rs ⟨ad, vs, i, i.toNat, y, hx, by rw [show z = .int i from q], g1, by omega, by omega, PySem.StrLaws.seqIndex_nonneg hm (by omega), e3, ?_⟩
          exact o φ _ _ (Ext.write sm (List.mem_of_getElem? f1)) (sm.write f1 (r1.erase i.toNat)) (ry.mono (Ext.write sm (List.mem_of_getElem? f1)))
        · exact o.elim
      · exact o.elim
    · exact o.elim
  · exact o.elim
theorem mt_join_ok : MtR X "str.join" (rMt (zOf X) X.mg W mtJoin) := by
  intro pins s σ H x xs v us Q I rx rs hh
  obtain ⟨φ, h, p, ps, sm, r, r2, o⟩ := hh
  unfold mtJoin at o
  split at o
  · rename_i sep a
    split at o
    · rename_i ys e1
      split at o
      · rename_i hm
        obtain ⟨l, e2, e3⟩ := Option.bind_eq_some_iff.mp e1
        obtain ⟨w, e, q⟩ := r2.one
        subst e
        obtain ⟨ad, vs, hx, hq, r'⟩ := sm.listV q e2
        rw [strs_rel r' e3] at hq
        exact mt_join pins s σ H x _ v us Q I rx rs ⟨sep, ad, ys, r, by rw [hx], .inl hq, by omega, o.at sm rfl⟩
      · exact o.elim
    · exact o.elim
  · exact o.elim
theorem vals2' {x y : V} {us : List Value} (r : Vals [x, y] us) : ∃ u w, us = [u, w] ∧ RelV x u ∧ RelV y w := by
  cases r with
  | cons r1 r2 =>
    cases r2 with
    | cons r3 r4 =>
      cases r4
      exact ⟨_, _, rfl, r1, r3⟩
theorem mt_get1_ok (hu : X.A.units + 1 < cLine) : MtR X "dict.get" (rMt (zOf X) X.mg W mtGet1) := by
  intro pins s σ H x xs v us Q I rx rs hh
  obtain ⟨φ, h, p, ps, sm, r, r2, o⟩ := hh
  unfold mtGet1 at o
  split at o
  · rename_i n a
    split at o
    · rename_i l k e1 ek
      obtain ⟨w, e, q⟩ := r2.one
      subst e
      obtain ⟨ad, hx, qq⟩ := r
      obtain ⟨a', kvs, e4, e5, r'⟩ := sm.dctR e1
      rw [qq] at e4
      cases e4
      have hk := key_rel q ek
      subst hx hk
      obtain rfl : v = Value.ref ad := rx
      obtain ⟨u, eu, ru⟩ := vals1' rs
      subst eu
      refine d_get1 hu I (DGet.k e5) ru fun w' s3 I3 rw' => ⟨_, H, I3, rw', ?_⟩
      rcases r'.val k with ⟨h1, h2⟩ | ⟨p', v', h1, h2, h3⟩
      · rw [h1] at o
        rw [h2]
        exact o.at sm rfl
      · rw [h1] at o
        rw [h2]
        exact o.at sm h3
    · exact o.elim
  · exact o.elim
theorem mt_setd_ok : MtR X "dict.setdefault" (rMt (zOf X) X.mg W mtSetd) := by
  intro pins s σ H x xs v us Q I rx rs hh
  obtain ⟨φ, h, p, ps, sm, r, r2, o⟩ := hh
  unfold mtSetd at o
  split at o
  · rename_i n a d
    split at o
    · rename_i l k e1 ek
      split at o
      · rename_i hm
        obtain ⟨w, w2, e, q, q2⟩ := r2.two
        subst e
        obtain ⟨ad, hx, qq⟩ := r
        obtain ⟨a', kvs, e4, e5, r'⟩ := sm.dctR e1
        rw [qq] at e4
        cases e4
        have hk := key_rel q ek
        subst hx hk
        obtain rfl : v = Value.ref ad := rx
        obtain ⟨u, u2, eu, ru, ru2⟩ := vals2' rs
        subst eu
        have xw := Ext.write (o := HO.dK (putK kvs k w2)) sm (List.mem_of_getElem? qq)
        refine d_setd I e5 ru ru2 (by rw [← r'.length]; exact line_lt hm) (fun v0 hv w' s3 I3 rw' => ⟨v0, H, I3, rw', ?_⟩) fun hn w' s3 I3 rw' => ⟨w2, _, I3, rw', ?_⟩
        · rcases r'.val k with ⟨h1, h2⟩ | ⟨p', v', h1, h2, h3⟩
          · rw [h2] at hv
            cases hv
          · rw [h2] at hv
            cases hv
            rw [h1] at o
            exact o.at sm h3
        · rcases r'.val k with ⟨h1, h2⟩ | ⟨p', v', h1, h2, h3⟩
          · rw [h1] at o
            exact o φ _ _ xw (sm.writeD qq (r'.put k q2)) (q2.mono xw)
          · rw [h2] at hn
            cases hn
      · exact o.elim
    · exact o.elim
  · exact o.elim
end
end Sb
namespace Sb
open PySem PySem.Spec L2
/-- nothing is let out -/
theorem takesN0 {X : Cx} : L2N.Takes X (fun _ _ _ _ => False) := fun _ _ x => by
  obtain ⟨_, _, _, _, _, _, _, _, _, _, _, _, _, _, _, _, z⟩ := x
  exact z.elim
/-- what is wanted of an exception at these slots -/
abbrev atS (W : WX) (σ : St) : XK := fun c d H => W c d σ H
def tE (K : ZZ) (mg : Str → Option Value) (W : WX) (C : Calls) (e : E) : TE := fun σ H Q => ∃ ρ φ h, Sim K φ h H ∧ RE K φ H ρ σ ∧ Out K mg (RV K) φ H (atS W σ) Q (evG C e false ρ h)
def tT (K : ZZ) (mg : Str → Option Value) (W : WX) (C : Calls) (e : E) : TT := fun σ H Q => ∃ ρ φ h, Sim K φ h H ∧ RE K φ H ρ σ ∧ Out K mg RI φ H (atS W σ) Q (evT C e ρ h)
def tAs (K : ZZ) (mg : Str → Option Value) (W : WX) (C : Calls) (es : List E) : TA := fun σ H Q => ∃ ρ φ h, Sim K φ h H ∧ RE K φ H ρ σ ∧ Out K mg (RVs K) φ H (atS W σ) Q (evGs C es ρ h)
/-- the program's expression a is the plain expression e -/
abbrev JE (X : Cx) (W : WX) (C : Calls) (a : Expr) (e : E) : Prop := PE X a (tE (zOf X) X.mg W C e)
abbrev JT (X : Cx) (W : WX) (C : Calls) (a : Expr) (e : E) : Prop := PT X a (tT (zOf X) X.mg W C e)
abbrev JA (X : Cx) (W : WX) (C : Calls) (as : List Expr) (es : List E) : Prop := PA X as (tAs (zOf X) X.mg W C es)
theorem zc3 {X : Cx} {a : Expr} {t t' : TE} (p : PE X a t) (f : ∀ σ H Q, t' σ H Q → t σ H Q) : PE X a t' := ⟨fun pins s σ H Q I h => p.run pins s σ H Q I (f σ H Q h)⟩
theorem pt_imp {X : Cx} {a : Expr} {t t' : TT} (p : PT X a t) (f : ∀ σ H Q, t' σ H Q → t σ H Q) : PT X a t' := ⟨fun pins s σ H Q I h => p.run pins s σ H Q I (f σ H Q h)⟩
theorem pa_imp {X : Cx} {a : List Expr} {t t' : TA} (p : PA X a t) (f : ∀ σ H Q, t' σ H Q → t σ H Q) : PA X a t' := ⟨fun pos pins s σ H Q I h => p.run pos pins s σ H Q I (f σ H Q h)⟩
section
variable {X : Cx} {W : WX} {C : Calls} {a b c : Expr} {pos : Pos} {ea eb ec : E}
theorem zab (i : Nat) {x : Str} (hN : X.N[i]? = some x := by rfl) (hv : Vis X.env.scope x := by first | exact Or.inl rfl | exact Or.inr (Or.inl rfl) | exact Or.inr (Or.inr rfl)) (hd : (x == ("__debug__" : Str)) = false := by decide)
    (hcd : (x == ("__classdict__" : Str)) = false := by decide) : JE X W C (.Name x pos) (.var i) := zc3 (pe_var hN hv hd hcd) fun σ H Q ⟨ρ, φ, h, sm, re, o⟩ => by
  have o' : Out (zOf X) X.mg (RV (zOf X)) φ H (atS W σ) Q (ofO (ρ.get i) h) := o
  obtain ⟨p, e, q⟩ := o'.some
  have e' : ρ[i]? = some (some p) := by
    unfold Env.get at e
    split at e
    · rename_i v e2
      rw [e2, Option.some.inj e]
    · cases e
  obtain ⟨v, e3, r⟩ := re.get e'
  exact ⟨v, e3, q.at sm r⟩
theorem je_lit {a : Expr} {v : V} {p : PV} (hp : PE X a (tC v)) (r : ∀ φ H, RV (zOf X) φ H p v) : JE X W C a (.lit p) := zc3 hp fun σ H Q ⟨ρ, φ, h, sm, re, o⟩ => by
  have o' : Out (zOf X) X.mg (RV (zOf X)) φ H (atS W σ) Q (.ok p h) := o
  exact o'.at sm (r φ H)
theorem zaf {i : Int} {j : Nat} : JE X W C (.Constant (.int i) j pos) (.lit (.int i)) := je_lit pe_int fun _ _ => rfl
theorem je_bl {i : Bool} {j : Nat} : JE X W C (.Constant (.bool i) j pos) (.lit (.bl i)) := je_lit pe_bl fun _ _ => rfl
theorem je_non {j : Nat} : JE X W C (.Constant .none j pos) (.lit .non) := je_lit pe_non fun _ _ => rfl
theorem je_str {i : Str} {j : Nat} : JE X W C (.Constant (.str i) j pos) (.lit (.str i)) := je_lit pe_str fun _ _ => rfl
/-- a built-in class by its name -/
theorem je_ty {x : Str} (t : Ty) (hm : X.mg x = none) (hv : bootBuiltins x = some (.type t.nm)) (hg : Gl X x := by rfl) (hn : x ≠ "__name__" := by decide) (hd : (x == ("__debug__" : Str)) = false := by decide) : JE X W C (.Name x pos) (.lit (.ty t)) :=
  je_lit (pe_bltn (v := .ty t.nm) hg hm hv rfl hn hd) fun _ _ => rfl
/-- a constant of the module -/
theorem je_glob {x : Str} {v : V} {u : Value} {p : PV} (hm : X.mg x = some u) (ru : RelV v u) (r : ∀ φ H, RV (zOf X) φ H p v) (hg : Gl X x := by rfl) (hd : (x == ("__debug__" : Str)) = false := by decide) : JE X W C (.Name x pos) (.lit p) := je_lit (pe_glob hg hm ru hd) r
/-- two, one after another -/
theorem two_of {σ : St} {H : Hp} {Q : VK} {ρ : Env} {φ : List Addr} {h : PH} {f : PV → PV → PH → R PV} (sm : Sim (zOf X) φ h H) (re : RE (zOf X) φ H ρ σ) (o : Out (zOf X) X.mg (RV (zOf X)) φ H (atS W σ) Q ((evG C ea false ρ h).bind fun x h1 => (evG C eb false ρ h1).bind fun y h2 => f x y h2)) :
    tOp (fun x y H Q => ∃ W' : XK, rOp (zOf X) X.mg W' f x y H Q) (tE (zOf X) X.mg W C ea) (tE (zOf X) X.mg W C eb) σ H Q :=
  ⟨ρ, φ, h, sm, re, (Out.bind (rel2 := RV (zOf X)) o).imp fun x H1 ⟨φ1, va, h1, x1, s1, r1, o1⟩ => ⟨ρ, φ1, h1, s1, re.mono x1, (Out.bind (rel2 := RV (zOf X)) o1).imp fun y H2 ⟨φ2, vb, h2, x2, s2, r2, o2⟩ => ⟨_, φ2, h2, va, vb, s2, r1.mono x2, r2, o2⟩⟩⟩
theorem opr_any {f : Value → Value → Sem Value} {r : XK → R2} (h : ∀ W, OpR X f (r W)) : OpR X f (fun x y H Q => ∃ W, r W x y H Q) := fun pins s σ H x y v u Q I rx ry ⟨W, q⟩ => h W pins s σ H x y v u Q I rx ry q
theorem ixr_any {r : XK → R2} (h : ∀ W, IxR X (r W)) : IxR X (fun x y H Q => ∃ W, r W x y H Q) := fun value slice pins s σ H x y v u Q I rx ry ⟨W, q⟩ hs => h W value slice pins s σ H x y v u Q I rx ry q hs
theorem zao {op : Operator} (ha : JE X W C a ea) (hb : JE X W C b eb) : JE X W C (.BinOp a op b pos) (.bin op ea eb) :=
  zc3 (pe_op (opr_any fun W' => bin_ok (W := W') op) ha hb) fun σ H Q ⟨ρ, φ, h, sm, re, o⟩ => two_of sm re o
theorem je_cmp {op : CmpOp} (hu : X.A.units + 66 < cLine) (ha : JE X W C a ea) (hb : JE X W C b eb) (hm : behindInMarks op b = false := by rfl) : JE X W C (.Compare a [op] [b] pos) (.cmp op ea eb) :=
  zc3 (pe_cmpR (opr_any fun W' => cmp_ok (W := W') hu op) ha hb hm) fun σ H Q ⟨ρ, φ, h, sm, re, o⟩ => two_of sm re o
theorem zal (hu : X.A.units + 66 < cLine) (ha : JE X W C a ea) (hb : JE X W C b eb) (hs : PlainIx b := by exact fun _ _ => rfl) : JE X W C (.Subscript a b pos) (.idx ea eb) :=
  zc3 (pe_ix (ixr_any fun W' => ix_ok (W := W') (by omega)) ha hb hs) fun σ H Q ⟨ρ, φ, h, sm, re, o⟩ => two_of sm re o
theorem je_neg (ha : JE X W C a ea) : JE X W C (.UnaryOp .USub a pos) (.neg ea) := zc3 (pe_un un_neg ha) fun σ H Q ⟨ρ, φ, h, sm, re, o⟩ =>
  ⟨ρ, φ, h, sm, re, (Out.bind (rel2 := RV (zOf X)) (show Out (zOf X) X.mg (RV (zOf X)) φ H (atS W σ) Q ((evG C ea false ρ h).bind _) from o)).imp fun x H1 ⟨φ1, va, h1, x1, s1, r1, o1⟩ => by
    cases va with
    | int i => exact ⟨i, r1, o1.at s1 rfl⟩
    | _ => exact (show False from o1).elim⟩
theorem je_not (ha : JE X W C a ea) : JE X W C (.UnaryOp .Not a pos) (.nt ea) := zc3 (pe_not ha) fun σ H Q ⟨ρ, φ, h, sm, re, o⟩ =>
  ⟨ρ, φ, h, sm, re, (Out.bind (rel2 := RV (zOf X)) (show Out (zOf X) X.mg (RV (zOf X)) φ H (atS W σ) Q ((evG C ea false ρ h).bind _) from o)).imp fun x H1 ⟨φ1, va, h1, x1, s1, r1, o1⟩ => by
    cases va with
    | bl i => exact ⟨i, r1, o1.at s1 rfl⟩
    | _ => exact (show False from o1).elim⟩
/-- a and b (and ..): the rest of the list -/
theorem je_one {op : BoolOp} (ha : JE X W C a ea) : JE X W C (.BoolOp op [a] pos) ea := pe_one ha
theorem je_and {rest : List Expr} (ha : JE X W C a ea) (hb : JE X W C (.BoolOp .And (b :: rest) pos) eb) : JE X W C (.BoolOp .And (a :: b :: rest) pos) (.band ea eb) := zc3 (pe_and ha hb) fun σ H Q ⟨ρ, φ, h, sm, re, o⟩ =>
  ⟨ρ, φ, h, sm, re, (Out.bind (rel2 := RV (zOf X)) (show Out (zOf X) X.mg (RV (zOf X)) φ H (atS W σ) Q ((evG C ea false ρ h).bind _) from o)).imp fun x H1 ⟨φ1, va, h1, x1, s1, r1, o1⟩ => by
    cases va with
    | bl i =>
      refine ⟨i, r1, ?_⟩
      cases i with
      | true => exact ⟨ρ, φ1, h1, s1, re.mono x1, o1⟩
      | false => exact o1.at s1 rfl
    | _ => exact (show False from o1).elim⟩
theorem evT_fin {K : ZZ} {mg : Str → Option Value} {φ : List Addr} {H : Hp} {W : XK} {Q : Bool → Hp → Prop} {m : R PV} (o : Out K mg RI φ H W Q (asB (fin true m))) :
    Out K mg (RV K) φ H W (fun x H' => ∃ k, TruV K.K x H' k ∧ Q k H') m := by
  unfold asB fin at o
  rw [if_pos rfl] at o
  cases m with
  | ok p h =>
    intro φ' H' v x s r
    rw [R.bind_ok] at o
    cases e : truthy h p with
    | none => rw [e] at o; exact (show False from o).elim
    | some k =>
      rw [e] at o
      exact ⟨k, tru_of s r e, (show Out K mg RI φ H W Q (.ok k h) from o) φ' H' k x s rfl⟩
  | ex x h => exact o
  | no => exact o
/-- a test that is a value's truth -/
theorem jt_val (ha : JE X W C a ea) (he : ∀ whole, isTrue a X.env whole = (do let v ← whole; standAt a.pos; holding [v] (PySem.truthy v)) := by intro _; rfl) (hf : ∀ ρ h, evG C ea true ρ h = fin true (evG C ea false ρ h) := by intro _ _; rfl) : JT X W C a ea :=
  pt_imp (pt_truth ha he) fun σ H Q ⟨ρ, φ, h, sm, re, o⟩ => ⟨ρ, φ, h, sm, re, evT_fin (by
    have o' : Out (zOf X) X.mg RI φ H (atS W σ) Q (asB (evG C ea true ρ h)) := o
    rw [hf] at o'
    exact o')⟩
theorem ofO_bl {o : Option Bool} {f : Bool → Bool} {h h' : PH} {p : PV} (e : ofO (o.map fun b => PV.bl (f b)) h = .ok p h') : ∃ k, p = .bl k := by
  cases o with
  | none => cases e
  | some k => cases e; exact ⟨_, rfl⟩
theorem cmp_bool {op : CmpOp} {a b : PV} {h : PH} {p : PV} {h' : PH} (e : zbd op a b h = .ok p h') : ∃ k, p = .bl k := by
  unfold zbd at e
  split at e
  all_goals first
    | exact ofO_bl (f := id) e
    | exact ofO_bl (f := fun b => !b) e
    | (cases e; exact ⟨_, rfl⟩)
    | cases e
/-- a comparison as a test -/
theorem za1 {op : CmpOp} (hu : X.A.units + 66 < cLine) (ha : JE X W C a ea) (hb : JE X W C b eb) (hm : behindInMarks op b = false := by rfl) : JT X W C (.Compare a [op] [b] pos) (.cmp op ea eb) :=
  pt_imp (pt_cmpR (opr_any fun W' => cmp_ok (W := W') hu op) ha hb hm) fun σ H Q ⟨ρ, φ, h, sm, re, o⟩ => by
    have o' : Out (zOf X) X.mg RI φ H (atS W σ) Q (asB (fin true ((evG C ea false ρ h).bind fun x h1 => (evG C eb false ρ h1).bind fun y h2 => zbd op x y h2))) := o
    have key : Out (zOf X) X.mg (RV (zOf X)) φ H (atS W σ) (fun x H' => ∃ k, x = .bl k ∧ Q k H') ((evG C ea false ρ h).bind fun x h1 => (evG C eb false ρ h1).bind fun y h2 => zbd op x y h2) := by
      generalize hm : ((evG C ea false ρ h).bind fun x h1 => (evG C eb false ρ h1).bind fun y h2 => zbd op x y h2) = m at o'
      cases m with
      | ok p h' =>
        intro φ' H' v x s r
        have hp : ∃ k, p = .bl k := by
          cases e1 : evG C ea false ρ h with
          | ok va h1 =>
            rw [e1, R.bind_ok] at hm
            cases e2 : evG C eb false ρ h1 with
            | ok vb h2 => rw [e2, R.bind_ok] at hm; exact cmp_bool hm
            | ex _ _ => rw [e2] at hm; cases hm
            | no => rw [e2] at hm; cases hm
          | ex _ _ => rw [e1] at hm; cases hm
          | no => rw [e1] at hm; cases hm
        obtain ⟨k, rfl⟩ := hp
        exact ⟨k, r, (show Out (zOf X) X.mg RI φ H (atS W σ) Q (.ok k h') from o') φ' H' k x s rfl⟩
      | ex x h' => exact o'
      | no => exact o'
    exact two_of sm re key
theorem evT_not (ρ : Env) (h : PH) : evT C (.nt ea) ρ h = (evT C ea ρ h).bind fun k h1 => .ok (!k) h1 := by
  unfold evT
  show asB ((evG C ea true ρ h).bind _) = (asB (evG C ea true ρ h)).bind _
  cases evG C ea true ρ h with
  | ok p h1 => cases p <;> rfl
  | ex x h1 => rfl
  | no => rfl
theorem evT_and (ρ : Env) (h : PH) : evT C (.band ea eb) ρ h = (evT C ea ρ h).bind fun k h1 => if k then evT C eb ρ h1 else .ok false h1 := by
  unfold evT
  show asB ((evG C ea true ρ h).bind _) = (asB (evG C ea true ρ h)).bind _
  cases evG C ea true ρ h with
  | ok p h1 =>
    cases p with
    | bl k => cases k <;> rfl
    | _ => rfl
  | ex x h1 => rfl
  | no => rfl
theorem evT_or (ρ : Env) (h : PH) : evT C (.bor ea eb) ρ h = (evT C ea ρ h).bind fun k h1 => if k then .ok true h1 else evT C eb ρ h1 := by
  unfold evT
  show asB ((evG C ea true ρ h).bind _) = (asB (evG C ea true ρ h)).bind _
  cases evG C ea true ρ h with
  | ok p h1 =>
    cases p with
    | bl k => cases k <;> rfl
    | _ => rfl
  | ex x h1 => rfl
  | no => rfl
theorem jt_not (ha : JT X W C a ea) : JT X W C (.UnaryOp .Not a pos) (.nt ea) := pt_imp (pt_not ha) fun σ H Q ⟨ρ, φ, h, sm, re, o⟩ => by
  rw [evT_not] at o
  exact ⟨ρ, φ, h, sm, re, (Out.bind (rel2 := RI) o).imp fun k H1 ⟨φ1, k1, h1, x1, s1, r1, o1⟩ => by
    have r1' : k1 = k := r1
    subst r1'
    exact o1.at s1 rfl⟩
abbrev JW (X : Cx) (W : WX) (C : Calls) (a : Expr) (e : E) : Prop := PW X a (tT (zOf X) X.mg W C e)
theorem pw_imp {t t' : TT} (p : PW X a t) (f : ∀ σ H Q, t' σ H Q → t σ H Q) : PW X a t' := ⟨fun wh pins s σ H Q I h => p.run wh pins s σ H Q I (f σ H Q h)⟩
theorem jw_and1 (ha : JT X W C a ea) : JW X W C (.BoolOp .And [a] pos) ea := pw_and1 ha
theorem jw_or1 (ha : JT X W C a ea) : JW X W C (.BoolOp .Or [a] pos) ea := pw_or1 ha
theorem jw_and {rest : List Expr} (ha : JT X W C a ea) (hb : JW X W C (.BoolOp .And (b :: rest) pos) eb) : JW X W C (.BoolOp .And (a :: b :: rest) pos) (.band ea eb) := pw_imp (pw_and ha hb) fun σ H Q ⟨ρ, φ, h, sm, re, o⟩ => by
  rw [evT_and] at o
  exact ⟨ρ, φ, h, sm, re, (Out.bind (rel2 := RI) o).imp fun k H1 ⟨φ1, k1, h1, x1, s1, r1, o1⟩ => by
    have r1' : k1 = k := r1
    subst r1'
    cases k1 with
    | true => exact ⟨ρ, φ1, h1, s1, re.mono x1, o1⟩
    | false => exact (show Out (zOf X) X.mg RI φ1 H1 (atS W σ) Q (.ok false h1) from o1).at s1 rfl⟩
theorem jw_or {rest : List Expr} (ha : JT X W C a ea) (hb : JW X W C (.BoolOp .Or (b :: rest) pos) eb) : JW X W C (.BoolOp .Or (a :: b :: rest) pos) (.bor ea eb) := pw_imp (pw_or ha hb) fun σ H Q ⟨ρ, φ, h, sm, re, o⟩ => by
  rw [evT_or] at o
  exact ⟨ρ, φ, h, sm, re, (Out.bind (rel2 := RI) o).imp fun k H1 ⟨φ1, k1, h1, x1, s1, r1, o1⟩ => by
    have r1' : k1 = k := r1
    subst r1'
    cases k1 with
    | false => exact ⟨ρ, φ1, h1, s1, re.mono x1, o1⟩
    | true => exact (show Out (zOf X) X.mg RI φ1 H1 (atS W σ) Q (.ok true h1) from o1).at s1 rfl⟩
theorem jt_bool (h : JW X W C a ea) : JT X W C a ea := PW.pt h
/-- a if t else b -/
theorem ite_eq (ρ : Env) (h : PH) : evG C (.ite ec ea eb) false ρ h = (evT C ec ρ h).bind fun k h1 => if k then evG C ea false ρ h1 else evG C eb false ρ h1 := by
  unfold evT
  show fin false ((evG C ec true ρ h).bind _) = (asB (evG C ec true ρ h)).bind _
  unfold fin
  rw [if_neg Bool.false_ne_true]
  cases evG C ec true ρ h with
  | ok p h1 =>
    cases p with
    | bl k => cases k <;> rfl
    | _ => rfl
  | ex x h1 => rfl
  | no => rfl
theorem je_ite (hc : JT X W C c ec) (ha : JE X W C a ea) (hb : JE X W C b eb) : JE X W C (.IfExp c a b pos) (.ite ec ea eb) := zc3 (pe_ifExp hc ha hb) fun σ H Q ⟨ρ, φ, h, sm, re, o⟩ => by
  rw [ite_eq] at o
  exact ⟨ρ, φ, h, sm, re, (Out.bind (rel2 := RI) o).imp fun k H1 ⟨φ1, k1, h1, x1, s1, r1, o1⟩ => by
    have r1' : k1 = k := r1
    subst r1'
    cases k1 with
    | true => exact ⟨ρ, φ1, h1, s1, re.mono x1, o1⟩
    | false => exact ⟨ρ, φ1, h1, s1, re.mono x1, o1⟩⟩
theorem zae : JA X W C [] [] := pa_imp pa_nil fun σ H Q ⟨ρ, φ, h, sm, re, o⟩ => (show Out (zOf X) X.mg (RVs (zOf X)) φ H (atS W σ) Q (.ok [] h) from o).at sm rfl
theorem zaa {es : List Expr} {ees : List E} (ha : JE X W C a ea) (hr : JA X W C es ees) (hs : starEach (a :: es) X.env = (false, eval a X.env) :: starEach es X.env := by rfl) : JA X W C (a :: es) (ea :: ees) :=
  pa_imp (pa_cons ha hr hs) fun σ H Q ⟨ρ, φ, h, sm, re, o⟩ =>
    ⟨ρ, φ, h, sm, re, (Out.bind (rel2 := RV (zOf X)) (show Out (zOf X) X.mg (RVs (zOf X)) φ H (atS W σ) Q ((evG C ea false ρ h).bind fun x h1 => (evGs C ees ρ h1).bind fun l h2 => .ok (x :: l) h2) from o)).imp fun x H1 ⟨φ1, va, h1, x1, s1, r1, o1⟩ =>
      ⟨ρ, φ1, h1, s1, re.mono x1, (Out.bind (rel2 := RVs (zOf X)) o1).imp fun xs H2 ⟨φ2, vb, h2, x2, s2, r2, o2⟩ => o2.at s2 (RVs.cons (r1.mono x2) r2)⟩⟩
/-- a list of values, then what is made of them -/
theorem list_of {σ : St} {H : Hp} {Q : VK} {ρ : Env} {φ : List Addr} {h : PH} {es : List E} {f : List PV → PH → R PV} (sm : Sim (zOf X) φ h H) (re : RE (zOf X) φ H ρ σ) (o : Out (zOf X) X.mg (RV (zOf X)) φ H (atS W σ) Q ((evGs C es ρ h).bind fun l h1 => f l h1)) :
    tAs (zOf X) X.mg W C es σ H (fun vs H1 => ∃ φ1 l h1, Sim (zOf X) φ1 h1 H1 ∧ RVs (zOf X) φ1 H1 l vs ∧ Out (zOf X) X.mg (RV (zOf X)) φ1 H1 (atS W σ) Q (f l h1)) :=
  ⟨ρ, φ, h, sm, re, (Out.bind (rel2 := RVs (zOf X)) o).imp fun xs H1 ⟨φ1, l, h1, x1, s1, r1, o1⟩ => ⟨φ1, l, h1, s1, r1, o1⟩⟩
theorem ta_imp {es : List E} {σ : St} {H : Hp} {Q Q' : List V → Hp → Prop} (f : ∀ vs H, Q vs H → Q' vs H) (t : tAs (zOf X) X.mg W C es σ H Q) : tAs (zOf X) X.mg W C es σ H Q' := by
  obtain ⟨ρ, φ, h, sm, re, o⟩ := t
  exact ⟨ρ, φ, h, sm, re, o.imp f⟩
theorem zca {es : List Expr} {ees : List E} {k : Nat} (ha : JA X W C es ees) : JE X W C (.Tuple es k pos) (.tup ees) := zc3 (pe_tup ha) fun σ H Q ⟨ρ, φ, h, sm, re, o⟩ =>
  ta_imp (fun vs H1 ⟨φ1, l, h1, s1, r1, o1⟩ => by
    unfold tupO at o1
    split at o1
    · rename_i hm
      exact ⟨by rw [← r1.length]; exact line_ok hm, o1.tupn s1 r1⟩
    · exact o1.elim) (list_of (f := tupO) sm re o)
theorem zck {es : List Expr} {ees : List E} (ha : JA X W C es ees) : JE X W C (.List es pos) (.lst ees) := zc3 (pe_lst ha) fun σ H Q ⟨ρ, φ, h, sm, re, o⟩ =>
  ta_imp (fun vs H1 ⟨φ1, l, h1, s1, r1, o1⟩ => by
    unfold Sb.alloc at o1
    split at o1
    · rename_i hm
      exact ⟨by rw [← r1.length]; exact line_ok hm, o1.alloc s1 r1⟩
    · exact o1.elim) (list_of (f := Sb.alloc) sm re o)
end
end Sb
namespace Sb
open PySem PySem.Spec L2
def spF (K : ZZ) (mg : Str → Option Value) (C : Calls) (fi np : Nat) : Sp := fun vs H Q E => vs.length = np ∧ ∃ φ h ps, Sim K φ h H ∧ RVs K φ H ps vs ∧ Out K mg (RV K) φ H E Q (C fi ps h)
/-- the def named x is the fi-th; ds: the defaults that fill up -/
structure FnI (P : Program) (w : World) (K : PySem.W.Frag) (mg : Str → Option Value) (base : Heap) (C : Calls) (k : Nat) (x : Str) (fi : Nat) (np : Nat) (ds : List Value) : Prop where
  ex : ∃ (fa : Addr) (fd : FuncData) (ps : List Str), ps.length = np ∧ FnOk P w K mg base (L2N.CX P w) (2 * k + 3) fa fd ps (spF ⟨K, [], P, w⟩ mg C fi np) ∧ mg x = some (.ref fa) ∧ PySem.W.keepIn K (.ref fa) = true ∧ Binds K fd ps ds
theorem evGs_length {C : Calls} : ∀ {es : List E} {ρ : Env} {h h' : PH} {l : List PV}, evGs C es ρ h = .ok l h' → l.length = es.length
  | [], ρ, h, h', l, e => by
    cases e
    rfl
  | e1 :: es, ρ, h, h', l, e => by
    have e' : ((evG C e1 false ρ h).bind fun x h1 => (evGs C es ρ h1).bind fun l h2 => R.ok (x :: l) h2) = .ok l h' := e
    cases z1 : evG C e1 false ρ h with
    | ok x h1 =>
      rw [z1, R.bind_ok] at e'
      cases z2 : evGs C es ρ h1 with
      | ok l2 h2 =>
        rw [z2, R.bind_ok] at e'
        cases e'
        rw [List.length_cons, List.length_cons, evGs_length z2]
      | ex _ _ => rw [z2] at e'; cases e'
      | no => rw [z2] at e'; cases e'
    | ex _ _ => rw [z1] at e'; cases e'
    | no => rw [z1] at e'; cases e'
section
variable {X : Cx} {W : WX} {C : Calls} {a b c : Expr} {as : List Expr} {pos p : Pos} {ea eb ec : E} {ees : List E} {x : Str} {k : Nat}
theorem call_red {fi np : Nat} {ds : List PV} {dvs : List V} {σ : St} {H : Hp} {Q : VK} {ρ : Env} {φ : List Addr} {h : PH} (hl : ees.length + ds.length = np) (rd : ∀ φ H, RVs (zOf X) φ H ds dvs) (sm : Sim (zOf X) φ h H) (re : RE (zOf X) φ H ρ σ)
    (o : Out (zOf X) X.mg (RV (zOf X)) φ H (atS W σ) Q ((evGs C ees ρ h).bind fun l h1 => C fi (l ++ ds) h1)) : tCallSD (spF (zOf X) X.mg C fi np) dvs (WE W) (tAs (zOf X) X.mg W C ees) σ H Q := by
  have key : Out (zOf X) X.mg (RVs (zOf X)) φ H (atS W σ) (fun vs H1 => spF (zOf X) X.mg C fi np (vs ++ dvs) H1 Q (WE W σ)) (evGs C ees ρ h) := by
    cases e : evGs C ees ρ h with
    | ok l h1 =>
      rw [e, R.bind_ok] at o
      intro φ' H' vs x s r
      refine ⟨?_, φ', h1, l ++ ds, s, r.append (rd φ' H'), o.mono x⟩
      rw [List.length_append, ← r.length, ← (rd φ' H').length, evGs_length e]
      exact hl
    | ex y h1 => rw [e] at o; exact o
    | no => rw [e] at o; exact o
  exact ⟨ρ, φ, h, sm, re, key⟩
theorem je_calld {fi np : Nat} {ds : List PV} {dvs : List V} {dus : List Value} (G : FnI X.prog X.w X.K X.mg X.base C k x fi np dus) (hcalm : X.calm = true) (rv : Vals dvs dus) (rd : ∀ φ H, RVs ⟨X.K, [], X.prog, X.w⟩ φ H ds dvs) (hr : Room (2 * k + 4) X.A) (tk : L2N.Takes X W) (ha : JA X W C (a :: as) ees)
    (hl : ees.length + ds.length = np := by rfl) (hg : Gl X x := by rfl) (hdb : (x == ("__debug__" : Str)) = false := by decide) (he : starEach (a :: as) X.env = (false, eval a X.env) :: starEach as X.env := by rfl) (hpl : (backTo pos (starEach as X.env)).any (·.1) = false := by rfl) :
    JE X W C (.Call (.Name x p) (a :: as) [] pos) (.call fi ees ds) := by
  obtain ⟨fa, fd, ps, hps, F, hm, hk, hb⟩ := G.ex
  have hz : zOf X = ⟨X.K, [], X.prog, X.w⟩ := z_calm hcalm
  rw [← hz] at F
  rw [← hz] at rd
  exact zc3 (pe_callSD F (hr.mono (by omega)) hg hm hk hb rv (fun σ => L2N.passAt tk σ) ha hdb he hpl) fun σ H Q ⟨ρ, φ, h, sm, re, o⟩ => call_red hl rd sm re o
theorem zak {fi np : Nat} (G : FnI X.prog X.w X.K X.mg X.base C k x fi np []) (hcalm : X.calm = true) (hr : Room (2 * k + 4) X.A) (tk : L2N.Takes X W) (ha : JA X W C (a :: as) ees)
    (hl : ees.length + 0 = np := by rfl) (hg : Gl X x := by rfl) (hdb : (x == ("__debug__" : Str)) = false := by decide) (he : starEach (a :: as) X.env = (false, eval a X.env) :: starEach as X.env := by rfl) (hpl : (backTo pos (starEach as X.env)).any (·.1) = false := by rfl) :
    JE X W C (.Call (.Name x p) (a :: as) [] pos) (.call fi ees []) := je_calld (ds := []) (dvs := []) G hcalm .nil (fun _ _ => rfl) hr tk ha hl hg hdb he hpl
theorem cb_red {f : List PV → PH → R PV} {σ : St} {H : Hp} {Q : VK} {ρ : Env} {φ : List Addr} {h : PH} (sm : Sim (zOf X) φ h H) (re : RE (zOf X) φ H ρ σ)
    (o : Out (zOf X) X.mg (RV (zOf X)) φ H (atS W σ) Q ((evGs C ees ρ h).bind fun l h1 => f l h1)) : tCB (fun vs H Q => ∃ W', rCa (zOf X) X.mg W' f vs H Q) (tAs (zOf X) X.mg W C ees) σ H Q :=
  ta_imp (fun vs H1 ⟨φ1, l, h1, s1, r1, o1⟩ => ⟨_, φ1, h1, l, s1, r1, o1⟩) (list_of sm re o)
theorem cr_any' {f : Value} {r : XK → List V → Hp → VK → Prop} (h : ∀ W, CallR X f (r W)) : CallR X f (fun vs H Q => ∃ W, r W vs H Q) := fun pins s σ H xs us Q I rs ⟨W, q⟩ => h W pins s σ H xs us Q I rs q
theorem za0 (bi : BI) {id : String} (hc : ∀ W', CallR X (.builtin id) (rCa (zOf X) X.mg W' (biF bi))) (hm : X.mg x = none) (hv : bootBuiltins x = some (.builtin id)) (ha : JA X W C (a :: as) ees) (hg : Gl X x := by rfl) (hn : x ≠ "__name__" := by decide) (hdb : (x == ("__debug__" : Str)) = false := by decide)
    (he : starEach (a :: as) X.env = (false, eval a X.env) :: starEach as X.env := by rfl) (hpl : (backTo pos (starEach as X.env)).any (·.1) = false := by rfl) : JE X W C (.Call (.Name x p) (a :: as) [] pos) (.bi bi ees) :=
  zc3 (pe_callB (cr_any' hc) hg hm hv ha hn hdb he hpl) fun σ H Q ⟨ρ, φ, h, sm, re, o⟩ => cb_red sm re o
theorem je_biT (bi : BI) {T : String} (hc : ∀ W', CallR X (.type T) (rCa (zOf X) X.mg W' (biF bi))) (hm : X.mg x = none) (hv : bootBuiltins x = some (.type T)) (ha : JA X W C (a :: as) ees) (hg : Gl X x := by rfl) (hn : x ≠ "__name__" := by decide) (hdb : (x == ("__debug__" : Str)) = false := by decide)
    (he : starEach (a :: as) X.env = (false, eval a X.env) :: starEach as X.env := by rfl) (hpl : (backTo pos (starEach as X.env)).any (·.1) = false := by rfl) : JE X W C (.Call (.Name x p) (a :: as) [] pos) (.bi bi ees) :=
  zc3 (pe_callTy (cr_any' hc) hg hm hv ha hn hdb he hpl) fun σ H Q ⟨ρ, φ, h, sm, re, o⟩ => cb_red sm re o
theorem tyV_of {K : ZZ} {φ : List Addr} {h : PH} {H : Hp} {v : PV} {x : V} {T : Ty} (hT : T = .list ∨ T = .str ∨ T = .dict) (sm : Sim K φ h H) (r : RV K φ H v x) (e : tyOf h v = some T) : tyV K.K T.nm x H := by
  cases v with
  | non => cases e; rcases hT with z | z | z <;> cases z
  | bl c => cases e; rcases hT with z | z | z <;> cases z
  | int i => cases e; rcases hT with z | z | z <;> cases z
  | str z =>
    cases e
    rw [show x = .str z from r]
    rfl
  | ty t => cases e
  | cls t => cases e
  | xc t ns vs => cases e
  | ste l => cases e
  | tup l => cases e; rcases hT with z | z | z <;> cases z
  | cl l =>
    obtain ⟨ad, vs, e1, q, r'⟩ := r
    cases e
    subst e1
    exact .inl ⟨rfl, vs, q.sq⟩
  | ref n =>
    obtain ⟨ad, e1, q⟩ := r
    subst e1
    unfold tyOf at e
    cases z : h[n]? with
    | none => simp only [z] at e; cases e
    | some o =>
      cases o with
      | lst l =>
        simp only [z] at e
        cases e
        obtain ⟨a', vs, e4, e5, r'⟩ := sm.lst z
        rw [q] at e4
        cases e4
        exact .inl ⟨rfl, vs, SqL.of e5⟩
      | dct l =>
        simp only [z] at e
        cases e
        obtain ⟨a', kvs, e4, e5, ek, r'⟩ := sm.dct z
        rw [q] at e4
        cases e4
        exact .inr (.inr (.inl ⟨rfl, .inl ⟨kvs, e5⟩⟩))
      | obj c l => simp only [z] at e; cases e
theorem mr_any {id : String} {r : XK → V → List V → Hp → VK → Prop} (h : ∀ W, MtR X id (r W)) : MtR X id (fun x vs H Q => ∃ W, r W x vs H Q) := fun pins s σ H x xs v us Q I rx rs ⟨W, q⟩ => h W pins s σ H x xs v us Q I rx rs q
theorem je_mth (m : MT) {o : Expr} {eo : E} {name : Str} {apos cpos : Pos} {id : String} (pa : PlainAttrs m.ty.nm) (slot : Slot m.ty.nm name id) (hty : typeOf (.builtin id) = pure (.type "method_descriptor")) (hm : ∀ W', MtR X id (rMt (zOf X) X.mg W' (mtF m))) (ho : JE X W C o eo) (ha : JA X W C (a :: as) ees)
    (hT : m.ty = .list ∨ m.ty = .str ∨ m.ty = .dict := by first | exact .inl rfl | exact .inr (.inl rfl) | exact .inr (.inr rfl)) (hbase : attributeBase o name X.env (eval o X.env) = eval o X.env := by rfl)
    (hfew : ((backTo cpos (starEach (a :: as) X.env)).all (fun x => !x.1) && (backToKw cpos (keywordEach [] X.env)).all (fun x => x.1.isSome)
      && decide ((a :: as).length + ([] : List Keyword).length + (if ([] : List Keyword).isEmpty then 0 else 1) < 30)) = true := by rfl)
    (hline : (apos.endLine == cpos.line) = true := by rfl) (hs : starEach (a :: as) X.env = (false, eval a X.env) :: starEach as X.env := by rfl) (hplain : (backTo cpos (starEach as X.env)).any (·.1) = false := by rfl) :
    JE X W C (.Call (.Attribute o name apos) (a :: as) [] cpos) (.mth m eo ees) :=
  zc3 (pe_bm pa slot hty (mr_any hm) ho ha hbase hfew hline hs hplain) fun σ H Q ⟨ρ, φ, h, sm, re, o⟩ =>
    ⟨ρ, φ, h, sm, re, (Out.bind (rel2 := RV (zOf X)) (show Out (zOf X) X.mg (RV (zOf X)) φ H (atS W σ) Q ((evG C eo false ρ h).bind fun x h1 => if tyOf h1 x = some m.ty then (evGs C ees ρ h1).bind fun l h2 => mtF m x l h2 else .no) from o)).imp fun x H1 ⟨φ1, vx, h1, x1, s1, r1, o1⟩ => by
      split at o1
      · rename_i ht
        refine ⟨tyV_of hT s1 r1 ht, ρ, φ1, h1, s1, re.mono x1, (Out.bind (rel2 := RVs (zOf X)) o1).imp fun xs H2 ⟨φ2, l, h2, x2, s2, r2, o2⟩ => ⟨_, φ2, h2, vx, l, s2, r1.mono x2, r2, o2⟩⟩
      · exact o1.elim⟩
end
structure WalkOk (K : ZZ) (J : It) (φ0 : List Addr) (H0 : Hp) (items : List PV) (kp : Keep) : Prop where
  go : ∀ (i : Nat) (φ : List Addr) (h : PH) (H : Hp) (p : PV), Kp φ0 φ H0 H → Sim K φ h H → zbn kp h → items[i]? = some p → J.go i H ∧ ∀ v H', J.yld i H v H' → Ext φ φ H H' ∧ Sim K φ h H' ∧ RV K φ H' p v
  stop : ∀ (i : Nat) (φ : List Addr) (h : PH) (H : Hp), Kp φ0 φ H0 H → Sim K φ h H → zbn kp h → items.length ≤ i → J.stop i H
noncomputable def evI (C : Calls) (k : ITK) (its : List E) (ρ : Env) (h : PH) : R (List PV × Keep) := (evGs C its ρ h).bind fun l h1 => ofO (zcm k l h1) h1
def relW (K : ZZ) (φ : List Addr) (H : Hp) (w : List PV × Keep) (J : It) : Prop := WalkOk K J φ H w.1 w.2
def tI (K : ZZ) (mg : Str → Option Value) (W : WX) (C : Calls) (k : ITK) (its : List E) : TI := fun σ H Q => ∃ ρ φ h, Sim K φ h H ∧ RE K φ H ρ σ ∧ Out K mg (relW K) φ H (atS W σ) Q (evI C k its ρ h)
abbrev JI (X : Cx) (W : WX) (C : Calls) (tg a : Expr) (k : ITK) (its : List E) : Prop := PI X tg a (tI (zOf X) X.mg W C k its)
theorem pi_imp {X : Cx} {tg a : Expr} {t t' : TI} (p : PI X tg a t) (f : ∀ σ H Q, t' σ H Q → t σ H Q) : PI X tg a t' := ⟨fun pins s σ H Q I h => p.run pins s σ H Q I (f σ H Q h)⟩
/-- a list or a tuple -/
def iSeq (K : PySem.W.Frag) (tl : TE) : TI := fun σ H R => tl σ H fun x H1 => ∃ a, x = .ref a ∧ (((∃ xs, SqL K H1 a xs) ∧ R (Itl K a) H1) ∨ ((∃ xs, SqT K H1 a xs) ∧ R (Itt K a) H1))
def iSeqS (K : PySem.W.Frag) (tl : TE) : TI := fun σ H R => tl σ H fun x H1 => (∃ a, x = .ref a ∧ (((∃ xs, SqL K H1 a xs) ∧ R (Itl K a) H1) ∨ ((∃ xs, SqT K H1 a xs) ∧ R (Itt K a) H1))) ∨ ∃ z, x = .str z ∧ R (Its z) H1
theorem pi_seqS {X : Cx} {tg l : Expr} {tl : TE} (hl : PE X l tl) : PI X tg l (iSeqS X.K tl) := by
  refine ⟨fun pins s σ H R I h => ?_⟩
  refine thn (hl.run pins s σ H _ I h) fun v s1 ⟨x, H1, I1, r1, q1⟩ => ?_
  rcases q1 with ⟨a, e, q1⟩ | ⟨z, e, q⟩
  case inr =>
    subst e
    obtain ⟨t, rfl⟩ := r1
    cases ha : z.cps.all (· < 128)
    · exact wpAny_pyIter_wide ha (pi_one (tk := s1.toks) I1 _ (turn_str _ z t "str_iterator" (.inr rfl)) ⟨_, Heap.get?_push_size _ rfl, rfl, rfl⟩ q)
    · exact wpAny_pyIter_ascii ha (pi_one (tk := s1.toks) I1 _ (turn_str _ z t "str_ascii_iterator" (.inl rfl)) ⟨_, Heap.get?_push_size _ rfl, rfl, rfl⟩ q)
  subst e
  cases r1
  rcases q1 with ⟨⟨xs, hq⟩, q⟩ | ⟨⟨xs, hq⟩, q⟩
  · obtain ⟨its, rv, p, hz⟩ := I1.list hq
    refine wpAny_pyIter_list p.isList ?_
    refine ⟨s1.heap.objs.size, [s1.heap.objs.size], _, _, H1, rfl, I1.kept (t' := s1.toks) fun b o e => Heap.get?_push_of_some _ e, turn_list a _, ⟨_, Heap.get?_push_size _ rfl, rfl, rfl⟩, fun b hb => ?_, q⟩
    have e : b = s1.heap.objs.size := by simpa using hb
    subst e
    exact I1.fpOk (Nat.le_refl _) (I1.hok.fresh (Nat.le_refl _))
  · obtain ⟨its, rv, p, hz⟩ := I1.tuple hq
    refine wpAny_pyIter_tuple (show s1.heap.IsTuple a its.toArray from p) ?_
    refine ⟨s1.heap.objs.size, [s1.heap.objs.size], _, _, H1, rfl, I1.kept (t' := s1.toks) fun b o e => Heap.get?_push_of_some _ e, turn_tuple a _, ⟨_, Heap.get?_push_size _ rfl, rfl, rfl⟩, fun b hb => ?_, q⟩
    have e : b = s1.heap.objs.size := by simpa using hb
    subst e
    exact I1.fpOk (Nat.le_refl _) (I1.hok.fresh (Nat.le_refl _))
theorem pi_seq {X : Cx} {tg l : Expr} {tl : TE} (hl : PE X l tl) : PI X tg l (iSeq X.K tl) := by
  refine ⟨fun pins s σ H R I h => ?_⟩
  refine thn (hl.run pins s σ H _ I h) fun v s1 ⟨x, H1, I1, r1, q1⟩ => ?_
  obtain ⟨a, e, q1⟩ := q1
  subst e
  cases r1
  rcases q1 with ⟨⟨xs, hq⟩, q⟩ | ⟨⟨xs, hq⟩, q⟩
  · obtain ⟨its, rv, p, hz⟩ := I1.list hq
    refine wpAny_pyIter_list p.isList ?_
    refine ⟨s1.heap.objs.size, [s1.heap.objs.size], _, _, H1, rfl, I1.kept (t' := s1.toks) fun b o e => Heap.get?_push_of_some _ e, turn_list a _, ⟨_, Heap.get?_push_size _ rfl, rfl, rfl⟩, fun b hb => ?_, q⟩
    have e : b = s1.heap.objs.size := by simpa using hb
    subst e
    exact I1.fpOk (Nat.le_refl _) (I1.hok.fresh (Nat.le_refl _))
  · obtain ⟨its, rv, p, hz⟩ := I1.tuple hq
    refine wpAny_pyIter_tuple (show s1.heap.IsTuple a its.toArray from p) ?_
    refine ⟨s1.heap.objs.size, [s1.heap.objs.size], _, _, H1, rfl, I1.kept (t' := s1.toks) fun b o e => Heap.get?_push_of_some _ e, turn_tuple a _, ⟨_, Heap.get?_push_size _ rfl, rfl, rfl⟩, fun b hb => ?_, q⟩
    have e : b = s1.heap.objs.size := by simpa using hb
    subst e
    exact I1.fpOk (Nat.le_refl _) (I1.hok.fresh (Nat.le_refl _))
section
variable {K : ZZ} {φ0 : List Addr} {H0 : Hp}
/-- a list that every later heap has as it was -/
theorem walk_list {a : Addr} {items : List PV} {kp : Keep} (st : ∀ φ h H, Kp φ0 φ H0 H → Sim K φ h H → zbn kp h → ∃ vs, SqL K.K H a vs ∧ RVs K φ H items vs) : WalkOk K (Itl K.K a) φ0 H0 items kp where
  go := fun i φ h H p x s q e => by
    obtain ⟨vs, hs, r⟩ := st φ h H x s q
    obtain ⟨v, e1, rv⟩ := r.get e
    refine ⟨⟨vs, v, hs, e1⟩, fun w H' y => ?_⟩
    obtain ⟨y1, y2⟩ := y
    subst y1
    have := y2 vs hs
    rw [e1] at this
    cases this
    exact ⟨Ext.refl _ _, s, rv⟩
  stop := fun i φ h H x s q e => by
    obtain ⟨vs, hs, r⟩ := st φ h H x s q
    exact ⟨vs, hs, by rw [← r.length]; exact e⟩
theorem walk_tup {a : Addr} {items : List PV} {kp : Keep} (st : ∀ φ h H, Kp φ0 φ H0 H → Sim K φ h H → zbn kp h → ∃ vs, SqT K.K H a vs ∧ RVs K φ H items vs) : WalkOk K (Itt K.K a) φ0 H0 items kp where
  go := fun i φ h H p x s q e => by
    obtain ⟨vs, hs, r⟩ := st φ h H x s q
    obtain ⟨v, e1, rv⟩ := r.get e
    refine ⟨⟨vs, v, hs, e1⟩, fun w H' y => ?_⟩
    obtain ⟨y1, y2⟩ := y
    subst y1
    have := y2 vs hs
    rw [e1] at this
    cases this
    exact ⟨Ext.refl _ _, s, rv⟩
  stop := fun i φ h H x s q e => by
    obtain ⟨vs, hs, r⟩ := st φ h H x s q
    exact ⟨vs, hs, by rw [← r.length]; exact e⟩
theorem walk_str (z : Str) : WalkOk K (Its z) φ0 H0 (z.cps.toList.map fun c => .str ⟨#[c]⟩) [] where
  go := fun i φ h H p x s q e => by
    rw [List.getElem?_map] at e
    obtain ⟨c, e1, e2⟩ := Option.map_eq_some_iff.mp e
    subst e2
    have e3 : z.cps[i]? = some c := by simpa using e1
    refine ⟨(Array.getElem?_eq_some_iff.mp e3).1, fun w H' y => ?_⟩
    obtain ⟨y1, c', y2, y3⟩ := y
    subst y1
    rw [e3] at y2
    cases y2
    exact ⟨Ext.refl _ _, s, y3⟩
  stop := fun i φ h H x s q e => by
    rw [List.length_map] at e
    show z.cps.size ≤ i
    simpa using e
theorem walk_range (n : Int) : WalkOk K (Itr 0 n.toNat) φ0 H0 (rangeP n) [] where
  go := fun i φ h H p x s q e => by
    have hi : i < n.toNat := by
      have := (List.getElem?_eq_some_iff.mp e).1
      unfold rangeP at this
      rw [List.length_map, List.length_range] at this
      exact this
    refine ⟨hi, fun v H' y => ?_⟩
    obtain ⟨y1, y2⟩ := y
    subst y1 y2
    have ep : p = .int (i : Nat) := by
      unfold rangeP at e
      rw [List.getElem?_map, List.getElem?_range hi] at e
      exact (Option.some.inj e).symm
    subst ep
    refine ⟨Ext.refl _ _, s, ?_⟩
    show V.int (0 + (i : Int)) = V.int (i : Int)
    rw [Int.zero_add]
  stop := fun i φ h H x s q e => by
    unfold rangeP at e
    rw [List.length_map, List.length_range] at e
    exact e
theorem zipP_get : ∀ {l k : List PV} {i : Nat} {p : PV}, (zipP l k)[i]? = some p → ∃ a b, l[i]? = some a ∧ k[i]? = some b ∧ p = .tup [a, b]
  | [], _, _, _, e => by simp [zipP] at e
  | _ :: _, [], _, _, e => by simp [zipP] at e
  | a :: l, b :: k, 0, p, e => by
    simp [zipP] at e
    exact ⟨a, b, rfl, rfl, e.symm⟩
  | a :: l, b :: k, i + 1, p, e => by
    simp [zipP] at e
    simpa using zipP_get e
theorem zipP_len : ∀ {l k : List PV} {i : Nat}, (zipP l k).length ≤ i → l.length ≤ i ∨ k.length ≤ i
  | [], _, i, _ => .inl (Nat.zero_le _)
  | _ :: _, [], i, _ => .inr (Nat.zero_le _)
  | a :: l, b :: k, i, e => by
    have e' : (zipP l k).length + 1 ≤ i := e
    obtain ⟨j, rfl⟩ : ∃ j, i = j + 1 := ⟨i - 1, by omega⟩
    rcases zipP_len (l := l) (k := k) (i := j) (by omega) with z | z
    · exact .inl (by rw [List.length_cons]; omega)
    · exact .inr (by rw [List.length_cons]; omega)
theorem walk_zipL {a b : Addr} {l k : List PV} {kp : Keep} (st : ∀ φ h H, Kp φ0 φ H0 H → Sim K φ h H → zbn kp h → ∃ vs ws, SqL K.K H a vs ∧ RVs K φ H l vs ∧ SqL K.K H b ws ∧ RVs K φ H k ws) : WalkOk K (Itz K.K a b) φ0 H0 (zipP l k) kp where
  go := fun i φ h H p x s q e => by
    obtain ⟨vs, ws, hs, r, hs2, r2⟩ := st φ h H x s q
    obtain ⟨pa, pb, ea, eb, rfl⟩ := zipP_get e
    obtain ⟨v, e1, rv⟩ := r.get ea
    obtain ⟨w, e2, rw'⟩ := r2.get eb
    refine ⟨⟨vs, ws, v, w, hs, hs2, e1, e2⟩, fun u H' y => ?_⟩
    obtain ⟨T, v', w', y1, nT, y2, y3, y4⟩ := y
    subst y1 y2
    have z1 := y3 vs hs
    have z2 := y4 ws hs2
    rw [e1] at z1
    rw [e2] at z2
    cases z1
    cases z2
    exact ⟨Ext.new nT, s.new nT, T, [v, w], rfl, .inl ⟨.inl upd_same, s.out nT⟩, (RVs.cons rv (RVs.cons rw' RVs.nil)).mono (Ext.new nT)⟩
  stop := fun i φ h H x s q e => by
    obtain ⟨vs, ws, hs, r, hs2, r2⟩ := st φ h H x s q
    refine ⟨vs, ws, hs, hs2, ?_⟩
    rw [← r.length, ← r2.length]
    exact zipP_len e
theorem walk_zipT {a b : Addr} {l k : List PV} {kp : Keep} (st : ∀ φ h H, Kp φ0 φ H0 H → Sim K φ h H → zbn kp h → ∃ vs ws, SqT K.K H a vs ∧ RVs K φ H l vs ∧ SqT K.K H b ws ∧ RVs K φ H k ws) : WalkOk K (RZ.ItzT K.K a b) φ0 H0 (zipP l k) kp where
  go := fun i φ h H p x s q e => by
    obtain ⟨vs, ws, hs, r, hs2, r2⟩ := st φ h H x s q
    obtain ⟨pa, pb, ea, eb, rfl⟩ := zipP_get e
    obtain ⟨v, e1, rv⟩ := r.get ea
    obtain ⟨w, e2, rw'⟩ := r2.get eb
    refine ⟨⟨vs, ws, v, w, hs, hs2, e1, e2⟩, fun u H' y => ?_⟩
    obtain ⟨T, v', w', y1, nT, y2, y3, y4⟩ := y
    subst y1 y2
    have z1 := y3 vs hs
    have z2 := y4 ws hs2
    rw [e1] at z1
    rw [e2] at z2
    cases z1
    cases z2
    exact ⟨Ext.new nT, s.new nT, T, [v, w], rfl, .inl ⟨.inl upd_same, s.out nT⟩, (RVs.cons rv (RVs.cons rw' RVs.nil)).mono (Ext.new nT)⟩
  stop := fun i φ h H x s q e => by
    obtain ⟨vs, ws, hs, r, hs2, r2⟩ := st φ h H x s q
    refine ⟨vs, ws, hs, hs2, ?_⟩
    rw [← r.length, ← r2.length]
    exact zipP_len e
end
theorem Sim.stays_at {K : ZZ} {φ : List Addr} {h : PH} {H : Hp} {n : Nat} {l : List PV} {kp : Keep} {a : Addr} (s : Sim K φ h H) (q : zbn kp h) (m : (n, l) ∈ kp) (e : φ[n]? = some a) : ∃ vs, SqL K.K H a vs ∧ RVs K φ H l vs := by
  obtain ⟨a', vs, e1, e2, r⟩ := s.lst (q (n, l) m)
  rw [e] at e1
  cases e1
  exact ⟨vs, SqL.of e2, r⟩
section
variable {X : Cx} {W : WX} {C : Calls} {a b c tg : Expr} {as : List Expr} {pos p : Pos} {ea eb ec : E} {ees : List E} {x : Str} {k : Nat}
theorem zc5 (ha : JE X W C a ea) : JI X W C tg a .seq [ea] := pi_imp (pi_seqS ha) fun σ H Q ⟨ρ, φ, h, sm, re, o⟩ => by
  have o' : Out (zOf X) X.mg (relW (zOf X)) φ H (atS W σ) Q ((evG C ea false ρ h).bind fun x h1 => ofO (zcm .seq [x] h1) h1) := by
    have e : evI C .seq [ea] ρ h = (evG C ea false ρ h).bind fun x h1 => ofO (zcm .seq [x] h1) h1 := by
      show (((evG C ea false ρ h).bind fun x h1 => ((R.ok [] h1 : R (List PV)).bind fun l h2 => R.ok (x :: l) h2)).bind fun l h1 => ofO (zcm .seq l h1) h1) = _
      cases evG C ea false ρ h <;> rfl
    rw [← e]
    exact o
  refine ⟨ρ, φ, h, sm, re, (Out.bind (rel2 := RV (zOf X)) o').imp fun x H1 ⟨φ1, va, h1, x1, s1, r1, o1⟩ => ?_⟩
  obtain ⟨w, e, q⟩ := o1.some
  have e' : walkSeq [va] h1 = some w := e
  cases va with
  | cl l =>
    cases e'
    obtain ⟨ad, vs, hx, hq, r⟩ := r1
    exact .inl ⟨ad, hx, .inl ⟨⟨vs, hq.sq⟩, q φ1 H1 _ (Ext.refl _ _) s1 (walk_list fun φ h H x s _ => ⟨vs, (hq.monoK x).sq, r.monoK x⟩)⟩⟩
  | ref n =>
    simp only [walkSeq] at e'
    split at e'
    · rename_i l e3
      cases e'
      obtain ⟨ad, hx, e4⟩ := r1
      obtain ⟨a', vs, e5, e6, r⟩ := s1.lst e3
      rw [e4] at e5
      cases e5
      exact .inl ⟨ad, hx, .inl ⟨⟨vs, SqL.of e6⟩, q φ1 H1 _ (Ext.refl _ _) s1 (walk_list fun φ h H x s st => s.stays_at st List.mem_cons_self (x.pl _ _ e4))⟩⟩
    · cases e'
  | str z =>
    cases e'
    exact .inr ⟨z, r1, q φ1 H1 _ (Ext.refl _ _) s1 (walk_str z)⟩
  | tup l =>
    cases e'
    obtain ⟨ad, vs, hx, hq, r⟩ := r1
    exact .inl ⟨ad, hx, .inr ⟨⟨vs, hq.sq⟩, q φ1 H1 _ (Ext.refl _ _) s1 (walk_tup fun φ h H x s _ => ⟨vs, (hq.monoK x).sq, r.monoK x⟩)⟩⟩
  | _ => cases e'
theorem ji_range (hm : X.mg "range" = none) (ha : JA X W C [a] [ea]) (hg : Gl X "range" := by rfl) (hs : starEach [a] X.env = [(false, eval a X.env)] := by rfl) : JI X W C tg (.Call (.Name "range" p) [a] [] pos) .range [ea] :=
  pi_imp (pi_range1 hg hm ha hs) fun σ H Q ⟨ρ, φ, h, sm, re, o⟩ => by
    refine ⟨ρ, φ, h, sm, re, (Out.bind (rel2 := RVs (zOf X)) (show Out (zOf X) X.mg (relW (zOf X)) φ H (atS W σ) Q ((evGs C [ea] ρ h).bind _) from o)).imp fun vs H1 ⟨φ1, l, h1, x1, s1, r1, o1⟩ => ?_⟩
    obtain ⟨w, e, q⟩ := o1.some
    change walkRange l h1 = some w at e
    unfold walkRange at e
    split at e
    · rename_i n
      split at e
      · rename_i hn
        cases e
        obtain ⟨v, e1, rv⟩ := r1.one
        exact ⟨n, by rw [e1, show v = .int n from rv], hn.2, hn.1, q φ1 H1 _ (Ext.refl _ _) s1 (walk_range n)⟩
      · cases e
    · cases e
theorem ji_zip {elts : List Expr} {kk : Nat} {tpos : Pos} (hm : X.mg "zip" = none) (ha : JA X W C [a, b] [ea, eb]) (hg : Gl X "zip" := by rfl) (hs : starEach [a, b] X.env = (false, eval a X.env) :: starEach [b] X.env := by rfl) (hpl : (backTo pos (starEach [b] X.env)).any (·.1) = false := by rfl) :
    JI X W C (.Tuple elts kk tpos) (.Call (.Name "zip" p) [a, b] [] pos) .zip [ea, eb] :=
  pi_imp (RZ.pi_zipA hg hm ha hs hpl) fun σ H Q ⟨ρ, φ, h, sm, re, o⟩ => by
    refine ⟨ρ, φ, h, sm, re, (Out.bind (rel2 := RVs (zOf X)) (show Out (zOf X) X.mg (relW (zOf X)) φ H (atS W σ) Q ((evGs C [ea, eb] ρ h).bind _) from o)).imp fun vs H1 ⟨φ1, l, h1, x1, s1, r1, o1⟩ => ?_⟩
    obtain ⟨w, e, q⟩ := o1.some
    change walkZip l h1 = some w at e
    unfold walkZip at e
    split at e
    · rename_i l1 l2
      cases e
      obtain ⟨v, w, e1, rv, rw'⟩ := r1.two
      obtain ⟨ad, vs1, hx, hq, r⟩ := rv
      obtain ⟨bd, vs2, hx2, hq2, r2⟩ := rw'
      exact ⟨ad, bd, vs1, vs2, by rw [e1, hx, hx2], .inr ⟨hq.sq, hq2.sq, q φ1 H1 _ (Ext.refl _ _) s1 (walk_zipT fun φ h H x s _ => ⟨vs1, vs2, (hq.monoK x).sq, r.monoK x, (hq2.monoK x).sq, r2.monoK x⟩)⟩⟩
    · rename_i m n
      split at e
      · rename_i l1 l2 e3 e4
        cases e
        obtain ⟨v, w, e1, rv, rw'⟩ := r1.two
        obtain ⟨ad, hx, e5⟩ := rv
        obtain ⟨bd, hx2, e6⟩ := rw'
        obtain ⟨a', vs1, e7, e8, r⟩ := s1.lst e3
        obtain ⟨b', vs2, e9, e10, r2⟩ := s1.lst e4
        rw [e5] at e7
        cases e7
        rw [e6] at e9
        cases e9
        refine ⟨ad, bd, vs1, vs2, by rw [e1, hx, hx2], .inl ⟨SqL.of e8, SqL.of e10, q φ1 H1 _ (Ext.refl _ _) s1 (walk_zipL fun φ h H x s st => ?_)⟩⟩
        obtain ⟨ws1, g1, g2⟩ := s.stays_at st List.mem_cons_self (x.pl _ _ e5)
        obtain ⟨ws2, g3, g4⟩ := s.stays_at st (List.mem_cons_of_mem _ List.mem_cons_self) (x.pl _ _ e6)
        exact ⟨ws1, ws2, g1, g2, g3, g4⟩
      · cases e
    · cases e
end
def gNs : List Nat → TGs
  | [] => gNil
  | i :: is => gCons (gName i) (gNs is)
/-- (a, .., *b) = a tuple: the rest's list is not tracked -/
def gStar (K : PySem.W.Frag) (n : Nat) (t : TGs) : TG := fun v σ H Q => ∃ a xs, v = .ref a ∧ SqT K H a xs ∧ n ≤ xs.length + 1 ∧ 0 < n ∧ xs.length ≤ 1000 ∧ ∀ D, t (xs.take (n - 1) ++ [.ref D]) σ H Q
def gT (K : PySem.W.Frag) (is : List Nat) (one : TgK) : TG := match one, is with
  | .one, [i] => gName i
  | .one, _ => fun _ _ _ _ => False
  | .tup, is => gTup K is.length (gNs is)
  | .star, is => gStar K is.length (gNs is)
  | .nest, [] => fun _ _ _ _ => False
  | .nest, i :: is => gTup K 2 (gCons (gName i) (gCons (gTup K is.length (gNs is)) gNil))
theorem gNs_post : ∀ {is : List Nat} {vs : List V} {σ : St} {H : Hp} {Q : St → Hp → Prop}, gNs is vs σ H Q → gNs is vs σ H (fun σ' H' => ([] : List V) = [] ∧ Q σ' H')
  | [], _, _, _, _, h => ⟨h.1, rfl, h.2⟩
  | _ :: is, _, _, _, _, ⟨v, r, e, h⟩ => ⟨v, r, e, gNs_post (is := is) h⟩
def setV : List Nat → List V → St → St
  | i :: is, v :: vs, σ => setV is vs (σ.set i (some v))
  | _, _, σ => σ
theorem gNs_ok {H : Hp} {Q : St → Hp → Prop} : ∀ {is : List Nat} {vs : List V} {σ : St}, is.length = vs.length → Q (setV is vs σ) H → gNs is vs σ H Q
  | [], [], σ, _, q => ⟨rfl, q⟩
  | i :: is, v :: vs, σ, e, q => ⟨v, vs, rfl, gNs_ok (is := is) (by simpa using e) q⟩
  | [], _ :: _, _, e, _ => by simp at e
  | _ :: _, [], _, e, _ => by simp at e
theorem setAll_ok {K : ZZ} {φ : List Addr} {H : Hp} : ∀ {is : List Nat} {l : List PV} {vs : List V} {ρ ρ' : Env} {σ : St}, RE K φ H ρ σ → RVs K φ H l vs → zbx ρ is l = some ρ' → RE K φ H ρ' (setV is vs σ) ∧ is.length = vs.length
  | [], [], vs, ρ, ρ', σ, h, r, e => by
    cases e
    have : vs = [] := r
    subst this
    exact ⟨h, rfl⟩
  | i :: is, p :: l, vs, ρ, ρ', σ, h, r, e => by
    obtain ⟨v, t, e1, q, s⟩ := r
    subst e1
    obtain ⟨h1, h3⟩ := setAll_ok (is := is) (h.set i q) s e
    exact ⟨h1, by rw [List.length_cons, List.length_cons, h3]⟩
  | [], _ :: _, _, _, _, _, _, _, e => by cases e
  | _ :: _, [], _, _, _, _, _, _, e => by cases e
/-- which names were stored -/
def wipesOk (is : List Nat) (σ σ' : St) : Prop := ∀ vs : List Nat, (∀ i ∈ is, i ∈ vs) → L2.wipe σ' vs = L2.wipe σ vs
theorem wipe_set {σ : St} {i : Nat} {v : Option V} : ∀ {vs : List Nat}, i ∈ vs → L2.wipe (σ.set i v) vs = L2.wipe σ vs
  | [], h => by simp at h
  | j :: vs, h => by
    show (L2.wipe (σ.set i v) vs).set j none = (L2.wipe σ vs).set j none
    by_cases e : i ∈ vs
    · rw [wipe_set e]
    · have ij : i = j := by
        rcases List.mem_cons.mp h with z | z
        · exact z
        · exact absurd z e
      subst ij
      rw [wipe_out' e]
      rw [List.set_set]
where
  wipe_out' {σ : St} {i : Nat} {v : Option V} : ∀ {vs : List Nat}, i ∉ vs → L2.wipe (σ.set i v) vs = (L2.wipe σ vs).set i v
    | [], _ => rfl
    | j :: vs, h => by
      show (L2.wipe (σ.set i v) vs).set j none = ((L2.wipe σ vs).set j none).set i v
      rw [wipe_out' (fun z => h (List.mem_cons_of_mem _ z)), List.set_comm _ _ (fun z => h (by rw [z]; exact List.mem_cons_self))]
theorem wipe_setV {σ : St} {ws : List Nat} : ∀ {is : List Nat} {vs : List V} {σ : St}, (∀ i ∈ is, i ∈ ws) → L2.wipe (setV is vs σ) ws = L2.wipe σ ws
  | [], _, σ, _ => rfl
  | _ :: _, [], σ, _ => rfl
  | i :: is, v :: vs, σ, h => by
    show L2.wipe (setV is vs (σ.set i (some v))) ws = _
    rw [wipe_setV (σ := σ) (is := is) (fun j hj => h j (List.mem_cons_of_mem _ hj)), wipe_set (h i List.mem_cons_self)]
theorem wipe_wipe {σ : St} : ∀ {vs : List Nat}, ∀ ws : List Nat, (∀ i ∈ vs, i ∈ ws) → L2.wipe (L2.wipe σ vs) ws = L2.wipe σ ws
  | [], ws, _ => rfl
  | j :: vs, ws, h => by
    show L2.wipe ((L2.wipe σ vs).set j none) ws = _
    rw [wipe_set (h j List.mem_cons_self)]
    exact wipe_wipe ws fun i hi => h i (List.mem_cons_of_mem _ hi)
theorem gT_ok {K : ZZ} {φ : List Addr} {H : Hp} {is : List Nat} {one : TgK} {p : PV} {v : V} {ρ ρ' : Env} {σ : St} {Q : St → Hp → Prop} (re : RE K φ H ρ σ) (r : RV K φ H p v) (e : zbo ρ is one p = some ρ')
    (q : ∀ σ', RE K φ H ρ' σ' → wipesOk is σ σ' → Q σ' H) : gT K.K is one v σ H Q := by
  unfold zbo at e
  split at e
  · rename_i i
    cases e
    exact q _ (re.set i r) fun vs h => wipe_set (h i List.mem_cons_self)
  · rename_i l
    obtain ⟨ad, vs, hx, hq, r'⟩ := r
    obtain ⟨h1, h2⟩ := setAll_ok re r' e
    exact ⟨ad, vs, hx, hq.sq, h2.symm, gNs_ok h2 (q _ h1 fun ws h => wipe_setV (σ := σ) h)⟩
  · rename_i i is a l
    obtain ⟨ad, vs, hx, hq, r'⟩ := r
    obtain ⟨v1, v2, rfl, q1, q2⟩ := r'.two
    obtain ⟨ad2, vs2, hx2, hq2, r2⟩ := q2
    obtain ⟨h1, h2⟩ := setAll_ok (re.set i q1) r2 e
    refine ⟨ad, _, hx, hq.sq, rfl, v1, _, rfl, v2, [], rfl, ad2, vs2, hx2, hq2.sq, h2.symm, ?_⟩
    refine gNs_post (gNs_ok h2 (q _ h1 fun ws h => ?_))
    rw [wipe_setV (σ := σ) (fun j hj => h j (List.mem_cons_of_mem _ hj)), wipe_set (h i List.mem_cons_self)]
  · rename_i l
    split at e
    · rename_i hn
      split at e
      · rename_i j hj
        obtain ⟨ρ1, e1, e2⟩ := Option.map_eq_some_iff.mp e
        subst e2
        obtain ⟨ad, vs, hx, hq, r'⟩ := r
        obtain ⟨h1, h2⟩ := setAll_ok re (r'.take (is.length - 1)) e1
        have eis : is = is.dropLast ++ [j] := by
          obtain ⟨ne, el⟩ := List.getLast?_eq_some_iff.mp hj
          rw [el]
          simp
        have lis : is.length = is.dropLast.length + 1 := by
          have := congrArg List.length eis
          rw [List.length_append] at this
          simpa using this
        have lv := r'.length
        refine ⟨ad, vs, hx, hq.sq, by omega, by omega, by omega, fun D => ?_⟩
        have key : ∀ {as : List Nat} {ws : List V} {σ : St}, as.length = ws.length → setV (as ++ [j]) (ws ++ [.ref D]) σ = (setV as ws σ).set j (some (.ref D)) := by
          intro as
          induction as with
          | nil =>
            intro ws σ e
            match ws, e with
            | [], _ => rfl
          | cons a as ih =>
            intro ws σ e
            match ws, e with
            | w :: ws, e => exact ih (by simpa using e)
        have gg : gNs (is.dropLast ++ [j]) (vs.take (is.length - 1) ++ [.ref D]) σ H Q := by
          refine gNs_ok (by rw [List.length_append, List.length_append, h2]; rfl) ?_
          rw [key h2]
          refine q _ ?_ fun ws hw => ?_
          · exact RE.unsetA j h1
          · rw [wipe_set (hw j (by rw [eis]; simp)), wipe_setV (σ := σ) (fun i hi => hw i (by rw [eis]; exact List.mem_append_left _ hi))]
        rw [← eis] at gg
        exact gg
      · cases e
    · cases e
  · cases e
end Sb
namespace Sb
open PySem PySem.Spec L2
/-- nothing is let out -/
abbrev W0 : WX := fun _ _ _ _ => False
theorem Out.calm_bind {K : ZZ} {mg : Str → Option Value} {α β γ δ : Type} {rel : List Addr → Hp → α → β → Prop} {rel2 : List Addr → Hp → γ → δ → Prop} {φ0 φ : List Addr} {H0 H : Hp} {W W' : XK} {Q : β → Hp → Prop} {m : R γ} {f : γ → PH → R α} (h : Out K mg rel φ0 H0 W Q (m.calm.bind f)) :
    Out K mg rel2 φ H W' (fun b H' => ∃ φ' a h1, Ext φ φ' H H' ∧ Sim K φ' h1 H' ∧ rel2 φ' H' a b ∧ Out K mg rel φ0 H0 W Q (f a h1)) m := by
  cases m with
  | ok a h1 => exact fun φ' H' b x s r => ⟨φ', a, h1, x, s, r, h⟩
  | ex x h1 => exact (show False from h).elim
  | no => exact h
def tCond (K : ZZ) (mg : Str → Option Value) (C : Calls) : Option E → TT
  | none => tYes
  | some e => tT K mg W0 C e
theorem cond_ok {K : ZZ} {mg : Str → Option Value} {C : Calls} {cond : Option E} {σ : St} {H : Hp} {ρ : Env} {φ : List Addr} {h : PH} {Q : Bool → Hp → Prop} (sm : Sim K φ h H) (re : RE K φ H ρ σ) (o : Out K mg RI φ H (fun _ _ _ => False) Q (evGc C cond ρ h)) : tCond K mg C cond σ H Q := by
  cases cond with
  | none => exact (show Out K mg RI φ H (fun _ _ _ => False) Q (.ok true h) from o).at sm rfl
  | some e => exact ⟨ρ, φ, h, sm, re, o⟩
theorem R.bind_bind {α β γ : Type} (m : R α) (f : α → PH → R β) (g : β → PH → R γ) : (m.bind f).bind g = m.bind fun a h => (f a h).bind g := by
  cases m <;> rfl
/-- the loop of a comprehension, as the layer reads it -/
theorem comp_red {K : ZZ} {mg : Str → Option Value} {W : WX} {C : Calls} {elt : E} {is : List Nat} {one : TgK} {k : ITK} {its : List E} {cond : Option E} {own : List Nat} (his : ∀ i ∈ is, i ∈ own) {σ : St} {H : Hp} {Q : VK} (t : tE K mg W C (.comp elt is one k its cond own) σ H Q) :
    tLc (tI K mg W C k its) (gT K.K is one) (tCond K mg C cond) (tE K mg W0 C elt) own σ H Q := by
  obtain ⟨ρ, φ, h, sm, re, o⟩ := t
  have o' : Out K mg (RV K) φ H (atS W σ) Q ((evI C k its ρ h).bind fun w h1 => (compLoop w.2 (fun x => zbo (zbi ρ own) is one x) (fun ρ1 h2 => (evGc C cond ρ1 h2).calm) (fun ρ1 h2 => (evG C elt false ρ1 h2).calm) w.1 [] h1).bind fun l h2 => alloc l h2) := by
    have e : evG C (.comp elt is one k its cond own) false ρ h = (evI C k its ρ h).bind fun w h1 => (compLoop w.2 (fun x => zbo (zbi ρ own) is one x) (fun ρ1 h2 => (evGc C cond ρ1 h2).calm) (fun ρ1 h2 => (evG C elt false ρ1 h2).calm) w.1 [] h1).bind fun l h2 => alloc l h2 := by
      unfold evI
      rw [R.bind_bind]
      show ((evGs C its ρ h).bind _) = _
      congr 1
      funext l h1
      cases zcm k l h1 with
      | none => rfl
      | some w => rfl
    rw [← e]
    exact o
  refine ⟨ρ, φ, h, sm, re, (Out.bind (rel2 := relW K) o').imp fun J H1 ⟨φ1, w, h1, x1, s1, wk, o1⟩ => ?_⟩
  obtain ⟨items, kp⟩ := w
  intro D hD
  have wk : WalkOk K J φ1 H1 items kp := wk
  have re1 := (re.mono x1).wipe own
  refine ⟨fun i m H2 => ∃ φ2 h2 acc ws, m = (items.drop i).length ∧ Ext φ1 φ2 H1 H2 ∧ Sim K φ2 h2 H2 ∧ D ∉ φ2 ∧ H2 D = some (.lst ws) ∧ RVs K φ2 H2 acc ws ∧
    Out K mg (RV K) φ1 H1 (atS W σ) Q ((compLoop kp (fun x => zbo (zbi ρ own) is one x) (fun ρ1 h2 => (evGc C cond ρ1 h2).calm) (fun ρ1 h2 => (evG C elt false ρ1 h2).calm) (items.drop i) acc h2).bind fun l h2 => alloc l h2),
    ⟨items.length, φ1, h1, [], [], rfl, Ext.new hD, s1.new hD, s1.out hD, upd_same, rfl, o1⟩, ?_⟩
  rintro i m H2 ⟨φ2, h2, acc, ws, hm, x2, s2, nD, hDl, ra, o2⟩
  cases e : items.drop i with
  | nil =>
    rw [e] at o2
    unfold compLoop at o2
    split at o2
    · rename_i hs
      refine .inl ⟨wk.stop i φ2 h2 H2 x2.kp s2 hs (List.drop_eq_nil_iff.mp e), ?_⟩
      have o3 : Out K mg (RV K) φ1 H1 (atS W σ) Q (alloc acc h2) := o2
      unfold alloc at o3
      split at o3
      · refine o3 (φ2 ++ [D]) H2 (.ref D) (x2.adopt hD) (s2.adopt hDl nD ra) ⟨D, rfl, ?_⟩
        rw [← s2.len, List.getElem?_append_right (Nat.le_refl _), Nat.sub_self]
        rfl
      · exact o3.elim
    · exact (show False from o2).elim
  | cons p rest =>
    have ei : items[i]? = some p := by
      have := congrArg (·[0]?) e
      simpa using this
    have er : items.drop (i + 1) = rest := by
      rw [← List.drop_drop, e]
      rfl
    rw [e] at o2
    unfold compLoop at o2
    split at o2
    · rename_i hs
      obtain ⟨hgo, hy⟩ := wk.go i φ2 h2 H2 p x2.kp s2 hs ei
      refine .inr ⟨hgo, fun H3 => ∃ φ2 h2 acc ws, Ext φ1 φ2 H1 H3 ∧ Sim K φ2 h2 H3 ∧ D ∉ φ2 ∧ H3 D = some (.lst ws) ∧ RVs K φ2 H3 acc ws ∧
        Out K mg (RV K) φ1 H1 (atS W σ) Q ((compLoop kp (fun x => zbo (zbi ρ own) is one x) (fun ρ1 h2 => (evGc C cond ρ1 h2).calm) (fun ρ1 h2 => (evG C elt false ρ1 h2).calm) rest acc h2).bind fun l h2 => alloc l h2), fun H3 z => ?_, fun v H3 y => ?_⟩
      · obtain ⟨φ3, h3, acc3, ws3, z1, z2, z3, z4, z5, z6⟩ := z
        refine ⟨rest.length, by rw [hm, e, List.length_cons]; omega, φ3, h3, acc3, ws3, by rw [er], z1, z2, z3, z4, z5, ?_⟩
        rw [er]
        exact z6
      · obtain ⟨ex, sx, rx⟩ := hy v H3 y
        cases eb : zbo (zbi ρ own) is one p with
        | none => simp only [eb] at o2; exact (show False from o2).elim
        | some ρ1 =>
          simp only [eb] at o2
          have xx := x2.trans ex
          have hD3 : H3 D = some (.lst ws) := ex.keep D _ hDl nD (fun ps z => by cases z)
          refine gT_ok (re1.mono xx) rx eb fun σ2 re2 wp => ⟨by rw [wp own his, wipe_wipe own fun _ z => z], ?_⟩
          have o3 := o2
          rw [R.bind_bind] at o3
          refine cond_ok sx re2 ((Out.calm_bind (rel2 := RI) (W' := fun _ _ _ => False) o3).imp fun b H4 ⟨φ4, b1, h4, x4, s4, r4, o4⟩ => ?_)
          have r4' : b1 = b := r4
          subst r4'
          have hD4 : H4 D = some (.lst ws) := x4.keep D _ hD3 nD (fun ps z => by cases z)
          have nD4 : D ∉ φ4 := fun z => by
            obtain ⟨ps, e⟩ := x4.fresh D z nD _ hD3
            cases e
          cases b1 with
          | false =>
            simp only [Bool.false_eq_true, if_false] at o4 ⊢
            exact ⟨φ4, h4, acc, ws, xx.trans x4, s4, nD4, hD4, (ra.mono ex).mono x4, o4⟩
          | true =>
            simp only [if_true] at o4 ⊢
            rw [R.bind_bind] at o4
            refine ⟨ρ1, φ4, h4, s4, re2.mono x4, (Out.calm_bind (rel2 := RV K) (W' := fun _ _ _ => False) o4).imp fun y H5 ⟨φ5, v5, h5, x5, s5, r5, o5⟩ => ?_⟩
            have hD5 : H5 D = some (.lst ws) := x5.keep D _ hD4 nD4 (fun ps z => by cases z)
            have nD5 : D ∉ φ5 := fun z => by
              obtain ⟨ps, e⟩ := x5.fresh D z nD4 _ hD4
              cases e
            have ra5 := ((ra.mono ex).mono x4).mono x5
            split at o5
            · rename_i hl
              refine ⟨ws, hD5, by rw [← ra.length]; exact line_lt hl, φ5, h5, acc ++ [v5], ws ++ [y], ((xx.trans x4).trans x5).aside hD, s5.aside hD5 nD5, nD5, upd_same, ?_, o5⟩
              exact (ra5.append (RVs.cons r5 RVs.nil)).monoK (Kp.aside hD5)
            · exact (show False from o5).elim
    · exact (show False from o2).elim
section
variable {X : Cx} {W : WX} {C : Calls}
theorem je_comp {elt tg iter : Expr} {ifs : List Expr} {scope : Scope} {own : List (Str × Nat)} {pos : Pos} {ee : E} {is : List Nat} {one : TgK} {k : ITK} {its : List E} {cond : Option E} (hc : X.calm = true) (hN : X.N.Nodup) (hi : JI X W C tg iter k its) (ok : BlkOk X.N X.env.scope scope own)
    (hg : ∀ (s : Shared) (H : Hp) (C : Addr) (cl : List (Str × Addr)) (fp : List Addr), PG (X.blk s H scope (compEnvC scope cl C X.env) fp) tg (gT X.K is one)) (ht : ∀ (s : Shared) (H : Hp) (C' : Addr) (cl : List (Str × Addr)) (fp : List Addr), PTs (X.blk s H scope (compEnvC scope cl C' X.env) fp) ifs (tCond (zOf (X.blk s H scope (compEnvC scope cl C' X.env) fp)) X.mg C cond))
    (he : ∀ (s : Shared) (H : Hp) (C' : Addr) (cl : List (Str × Addr)) (fp : List Addr), JE (X.blk s H scope (compEnvC scope cl C' X.env) fp) W0 C elt ee) (his : ∀ i ∈ is, i ∈ own.map (·.2) := by decide) (hs : ∀ x, foldedSetIterable iter X.env x = pure x := by intro _; rfl) :
    JE X W C (.ListComp elt [⟨tg, iter, ifs, 0⟩] scope pos) (.comp ee is one k its cond (own.map (·.2))) := by
  have hz : zOf X = ⟨X.K, [], X.prog, X.w⟩ := z_calm hc
  have hzb : ∀ (s : Shared) (H : Hp) (cenv : PySem.Env) (fp : List Addr), zOf (X.blk s H scope cenv fp) = ⟨X.K, [], X.prog, X.w⟩ := fun s H cenv fp => z_calm (X := X.blk s H scope cenv fp) hc
  have ht' : ∀ (s : Shared) (H : Hp) (C' : Addr) (cl : List (Str × Addr)) (fp : List Addr), PTs (X.blk s H scope (compEnvC scope cl C' X.env) fp) ifs (tCond ⟨X.K, [], X.prog, X.w⟩ X.mg C cond) := fun s H C' cl fp => by
    have z := ht s H C' cl fp
    rw [hzb] at z
    exact z
  have he' : ∀ (s : Shared) (H : Hp) (C' : Addr) (cl : List (Str × Addr)) (fp : List Addr), PE (X.blk s H scope (compEnvC scope cl C' X.env) fp) elt (tE ⟨X.K, [], X.prog, X.w⟩ X.mg W0 C ee) := fun s H C' cl fp => by
    have z := he s H C' cl fp
    unfold JE at z
    rw [hzb] at z
    exact z
  exact zc3 (pe_lc (te := tE ⟨X.K, [], X.prog, X.w⟩ X.mg W0 C ee) hc hN hi ok hg ht' he' hs) fun σ H Q t => by
    have t' := comp_red his t
    rw [← hz]
    exact t'
end
def OutS (K : ZZ) (mg : Str → Option Value) (φ : List Addr) (H : Hp) (W : WX) (D : Ends) : RS → Prop
  | .nx ρ h => ∀ φ' H' σ', Ext φ φ' H H' → Sim K φ' h H' → RE K φ' H' ρ σ' → D.nx σ' H'
  | .rt v h => ∀ φ' H' x, Ext φ φ' H H' → Sim K φ' h H' → RV K φ' H' v x → D.rt x H'
  | .bk ρ h => ∀ φ' H' σ', Ext φ φ' H H' → Sim K φ' h H' → RE K φ' H' ρ σ' → D.bk σ' H'
  | .ct ρ h => ∀ φ' H' σ', Ext φ φ' H H' → Sim K φ' h H' → RE K φ' H' ρ σ' → D.ct σ' H'
  | .ex x ρ h => ∀ φ' H' σ' cls d, Ext φ φ' H H' → Sim K φ' h H' → RE K φ' H' ρ σ' → RX K mg φ' H' x cls d → W cls d σ' H'
  | .no => False
section
variable {K : ZZ} {mg : Str → Option Value} {φ φ' : List Addr} {H H' : Hp} {W : WX} {D : Ends}
theorem OutS.mono (x : Ext φ φ' H H') : ∀ {m : RS}, OutS K mg φ H W D m → OutS K mg φ' H' W D m
  | .nx _ _, h => fun φ2 H2 b y s r => h φ2 H2 b (x.trans y) s r
  | .rt _ _, h => fun φ2 H2 b y s r => h φ2 H2 b (x.trans y) s r
  | .bk _ _, h => fun φ2 H2 b y s r => h φ2 H2 b (x.trans y) s r
  | .ct _ _, h => fun φ2 H2 b y s r => h φ2 H2 b (x.trans y) s r
  | .ex _ _ _, h => fun φ2 H2 b c d y s r => h φ2 H2 b c d (x.trans y) s r
  | .no, h => h
/-- an expression, then the rest of the statement -/
theorem OutS.st {α β : Type} {rel : List Addr → Hp → α → β → Prop} {m : R α} {f : α → PH → RS} {ρ : Env} {σ : St} (re : RE K φ H ρ σ) (h : OutS K mg φ H W D (m.st ρ f)) :
    Out K mg rel φ H (atS W σ) (fun b H' => ∃ φ' a h1, Ext φ φ' H H' ∧ Sim K φ' h1 H' ∧ rel φ' H' a b ∧ OutS K mg φ' H' W D (f a h1)) m := by
  cases m with
  | ok a h1 => exact fun φ' H' b x s r => ⟨φ', a, h1, x, s, r, h.mono x⟩
  | ex y h1 => exact fun φ' H' c d x s r => h φ' H' σ c d x s (re.mono x) r
  | no => exact h
theorem OutS.atN {ρ : Env} {h : PH} {σ : St} (o : OutS K mg φ H W D (.nx ρ h)) (s : Sim K φ h H) (re : RE K φ H ρ σ) : D.nx σ H := o φ H σ (Ext.refl _ _) s re
end
def tS (K : ZZ) (mg : Str → Option Value) (W : WX) (C : Calls) (s : S) : TS := fun D σ H => ∃ ρ φ h, Sim K φ h H ∧ RE K φ H ρ σ ∧ OutS K mg φ H W D (exS C s ρ h)
def tSs (K : ZZ) (mg : Str → Option Value) (W : WX) (C : Calls) (s : List S) : TS := fun D σ H => ∃ ρ φ h, Sim K φ h H ∧ RE K φ H ρ σ ∧ OutS K mg φ H W D (exSs C s ρ h)
abbrev JS (X : Cx) (W : WX) (C : Calls) (a : Stmt) (s : S) : Prop := PS X a (tS (zOf X) X.mg W C s)
abbrev JSs (X : Cx) (W : WX) (C : Calls) (a : List Stmt) (s : List S) : Prop := PSs X a (tSs (zOf X) X.mg W C s)
theorem ps_imp {X : Cx} {a : Stmt} {t t' : TS} (p : PS X a t) (f : ∀ D σ H, t' D σ H → t D σ H) : PS X a t' := ⟨fun pins s σ H D I h => p.run pins s σ H D I (f D σ H h)⟩
theorem pss_imp {X : Cx} {a : List Stmt} {t t' : TS} (p : PSs X a t) (f : ∀ D σ H, t' D σ H → t D σ H) : PSs X a t' := ⟨fun pins s σ H D I h => p.run pins s σ H D I (f D σ H h)⟩
section
variable {X : Cx} {W : WX} {C : Calls} {a b c : Expr} {st : Stmt} {sts rest : List Stmt} {pos : Pos} {ea eb ec : E} {s : S} {ss ss2 : List S}
theorem zah : JSs X W C [] [] := pss_imp pss_nil fun D σ H ⟨ρ, φ, h, sm, re, o⟩ => (show OutS (zOf X) X.mg φ H W D (.nx ρ h) from o).atN sm re
theorem zac (h1 : JS X W C st s) (h2 : JSs X W C rest ss) : JSs X W C (st :: rest) (s :: ss) := pss_imp (pss_cons h1 h2) fun D σ H ⟨ρ, φ, h, sm, re, o⟩ => by
  have o' : OutS (zOf X) X.mg φ H W D ((exS C s ρ h).seq fun ρ1 h1 => exSs C ss ρ1 h1) := o
  refine ⟨ρ, φ, h, sm, re, ?_⟩
  cases e : exS C s ρ h with
  | nx ρ1 h1 =>
    rw [e] at o'
    exact fun φ' H' σ' x s r => ⟨ρ1, φ', h1, s, r, OutS.mono x o'⟩
  | rt v h1 => rw [e] at o'; exact o'
  | bk ρ1 h1 => rw [e] at o'; exact o'
  | ct ρ1 h1 => rw [e] at o'; exact o'
  | ex x ρ1 h1 => rw [e] at o'; exact o'
  | no => rw [e] at o'; exact o'
theorem zat (ha : JE X W C a ea) : JS X W C (.Return (some a) pos) (.ret ea) := ps_imp (ps_ret ha) fun D σ H ⟨ρ, φ, h, sm, re, o⟩ =>
  ⟨ρ, φ, h, sm, re, (OutS.st (rel := RV (zOf X)) re (show OutS (zOf X) X.mg φ H W D ((evE C ea ρ h).st ρ fun v h1 => .rt v h1) from o)).imp fun x H1 ⟨φ1, v, h1, x1, s1, r1, o1⟩ => o1 φ1 H1 x (Ext.refl _ _) s1 r1⟩
theorem js_expr (ha : JE X W C a ea) (hs : swapsWith a none pos.line X.env = pure false := by rfl) : JS X W C (.Expr a pos) (.ex ea) := ps_imp (ps_expr ha hs) fun D σ H ⟨ρ, φ, h, sm, re, o⟩ =>
  ⟨ρ, φ, h, sm, re, (OutS.st (rel := RV (zOf X)) re (show OutS (zOf X) X.mg φ H W D ((evE C ea ρ h).st ρ fun v h1 => .nx ρ h1) from o)).imp fun x H1 ⟨φ1, v, h1, x1, s1, r1, o1⟩ => o1.atN s1 (re.mono x1)⟩
theorem zcj (hc : JT X W C c ec) (ha : JSs X W C sts ss) (hb : JSs X W C rest ss2) : JS X W C (.If c sts rest pos) (.ifs ec ss ss2) := ps_imp (ps_if hc ha hb) fun D σ H ⟨ρ, φ, h, sm, re, o⟩ =>
  ⟨ρ, φ, h, sm, re, (OutS.st (rel := RI) re (show OutS (zOf X) X.mg φ H W D ((evT C ec ρ h).st ρ fun k h1 => if k then exSs C ss ρ h1 else exSs C ss2 ρ h1) from o)).imp fun k H1 ⟨φ1, k1, h1, x1, s1, r1, o1⟩ => by
    have r1' : k1 = k := r1
    subst r1'
    cases k1 with
    | true => exact ⟨ρ, φ1, h1, s1, re.mono x1, o1⟩
    | false => exact ⟨ρ, φ1, h1, s1, re.mono x1, o1⟩⟩
/-- name = e -/
theorem asg_red {te : TE} {i : Nat} {D : Ends} {σ : St} {H : Hp} (hte : ∀ Q, tE (zOf X) X.mg W C ea σ H Q → te σ H Q) (t : tS (zOf X) X.mg W C (.asg (.nm i) ea) D σ H) : tAsg te (gName i) D σ H := by
  obtain ⟨ρ, φ, h, sm, re, o⟩ := t
  exact hte _ ⟨ρ, φ, h, sm, re, (OutS.st (rel := RV (zOf X)) re (show OutS (zOf X) X.mg φ H W D ((evE C ea ρ h).st ρ fun v h1 => .nx (ρ.set i (some v)) h1) from o)).imp fun x H1 ⟨φ1, v, h1, x1, s1, r1, o1⟩ => o1.atN s1 ((re.mono x1).set i r1)⟩
theorem zap {i : Nat} {x : Str} {pos' : Pos} (hN : X.N.Nodup) (ha : JE X W C a ea) (hi : X.N[i]? = some x := by rfl) (hx : Loc X.env.scope x := by first | exact .inl rfl | exact .inr rfl) (hs : swapsWith a (some (.Name x pos')) pos.line X.env = pure false := by rfl) (hf : X.fn x = true ∨ X.env.scope.names.lookup x = some .local := by first | exact .inl rfl | exact .inr rfl | assumption) :
    JS X W C (.Assign [.Name x pos'] a pos) (.asg (.nm i) ea) := ps_imp (ps_set hN hi hx ha hs hf) fun D σ H t => asg_red (fun _ z => z) t
/-- name = [.. for ..] on one line -/
theorem js_setC {i : Nat} {y : Str} {py : Pos} {elt tg iter : Expr} {ifs : List Expr} {scope : Scope} {own : List (Str × Nat)} {pos spos : Pos} {ee : E} {is : List Nat} {one : TgK} {k : ITK} {its : List E} {cond : Option E} (hc : X.calm = true) (hN : X.N.Nodup) (hi : JI X W C tg iter k its) (ok : BlkOk X.N X.env.scope scope own)
    (hg : ∀ (s : Shared) (H : Hp) (C : Addr) (cl : List (Str × Addr)) (fp : List Addr), PG (X.blk s H scope (compEnvC scope cl C X.env) fp) tg (gT X.K is one)) (ht : ∀ (s : Shared) (H : Hp) (C' : Addr) (cl : List (Str × Addr)) (fp : List Addr), PTs (X.blk s H scope (compEnvC scope cl C' X.env) fp) ifs (tCond (zOf (X.blk s H scope (compEnvC scope cl C' X.env) fp)) X.mg C cond))
    (he : ∀ (s : Shared) (H : Hp) (C' : Addr) (cl : List (Str × Addr)) (fp : List Addr), JE (X.blk s H scope (compEnvC scope cl C' X.env) fp) W0 C elt ee) (hy : X.N[i]? = some y := by rfl) (hyl : X.env.scope.names.lookup y = some .local := by rfl)
    (hsw : swapsWith (.ListComp elt [⟨tg, iter, ifs, 0⟩] scope pos) (some (.Name y py)) spos.line X.env = pure true := by exact sw_true rfl rfl rfl (by decide +kernel)) (his : ∀ i ∈ is, i ∈ own.map (·.2) := by decide) (hs : ∀ x, foldedSetIterable iter X.env x = pure x := by intro _; rfl) :
    JS X W C (.Assign [.Name y py] (.ListComp elt [⟨tg, iter, ifs, 0⟩] scope pos) spos) (.asg (.nm i) (.comp ee is one k its cond (own.map (·.2)))) :=
  by
  have hz : zOf X = ⟨X.K, [], X.prog, X.w⟩ := z_calm hc
  have hzb : ∀ (s : Shared) (H : Hp) (cenv : PySem.Env) (fp : List Addr), zOf (X.blk s H scope cenv fp) = ⟨X.K, [], X.prog, X.w⟩ := fun s H cenv fp => z_calm (X := X.blk s H scope cenv fp) hc
  have ht' : ∀ (s : Shared) (H : Hp) (C' : Addr) (cl : List (Str × Addr)) (fp : List Addr), PTs (X.blk s H scope (compEnvC scope cl C' X.env) fp) ifs (tCond ⟨X.K, [], X.prog, X.w⟩ X.mg C cond) := fun s H C' cl fp => by
    have z := ht s H C' cl fp
    rw [hzb] at z
    exact z
  have he' : ∀ (s : Shared) (H : Hp) (C' : Addr) (cl : List (Str × Addr)) (fp : List Addr), PE (X.blk s H scope (compEnvC scope cl C' X.env) fp) elt (tE ⟨X.K, [], X.prog, X.w⟩ X.mg W0 C ee) := fun s H C' cl fp => by
    have z := he s H C' cl fp
    unfold JE at z
    rw [hzb] at z
    exact z
  exact ps_imp (ps_setLc (te := tE ⟨X.K, [], X.prog, X.w⟩ X.mg W0 C ee) hc hN hy hyl hsw hi ok hg ht' he' hs) fun D σ H t => by
    have t' := asg_red (X := X) (fun _ z => comp_red his z) t
    rw [← hz]
    exact t'
/-- (a, b, ..) = e -/
theorem js_tup {tg : Expr} {is : List Nat} (ha : JE X W C a ea) (hg : PG X tg (gTup X.K is.length (gNs is))) (hs : swapsWithSole [tg] a pos.line X.env = pure false := by rfl) (hw : swappedStores [tg] a X.env = pure none := by rfl)
    (h1 : (assignEach [tg] X.env).map (·.2) = [assign tg X.env] := by rfl) : JS X W C (.Assign [tg] a pos) (.asg (.tup is) ea) := ps_imp (ps_asg ha hg hs hw h1) fun D σ H ⟨ρ, φ, h, sm, re, o⟩ =>
  ⟨ρ, φ, h, sm, re, (OutS.st (rel := RV (zOf X)) re (show OutS (zOf X) X.mg φ H W D ((evE C ea ρ h).st ρ fun v h1 => stTg C (.tup is) v ρ h1) from o)).imp fun x H1 ⟨φ1, v, h1, x1, s1, r1, o1⟩ => by
    cases v with
    | tup l =>
      simp only [stTg] at o1
      cases e : zbx ρ is l with
      | none => simp only [e] at o1; exact (show False from o1).elim
      | some ρ' =>
        simp only [e] at o1
        obtain ⟨ad, vs, hx, hq, r'⟩ := r1
        obtain ⟨g1, g2⟩ := setAll_ok (re.mono x1) r' e
        exact ⟨ad, vs, hx, hq.sq, g2.symm, gNs_ok g2 (OutS.atN o1 s1 g1)⟩
    | _ => exact (show False from o1).elim⟩
/-- a, b = x, y: two plain names -/
theorem js_par {i j : Nat} {x y : Str} {px py pt : Pos} {kt k2 : Nat} {pt2 : Pos} (hc : X.calm = true) (hN : X.N.Nodup) (ha : JA X W C [a, b] [ea, eb]) (hij : i ≠ j := by decide) (hi : X.N[i]? = some x := by rfl) (hj : X.N[j]? = some y := by rfl)
    (hx : X.env.scope.names.lookup x = some .local := by rfl) (hy : X.env.scope.names.lookup y = some .local := by rfl)
    (hw : swappedStores [.Tuple [.Name x px, .Name y py] kt pt] (.Tuple [a, b] k2 pt2) X.env = pure (some [x, y]) := by rfl)
    (hs : swapsWithSole [.Tuple [.Name x px, .Name y py] kt pt] (.Tuple [a, b] k2 pt2) pos.line X.env = pure false := by rfl) :
    JS X W C (.Assign [.Tuple [.Name x px, .Name y py] kt pt] (.Tuple [a, b] k2 pt2) pos) (.asg (.tup [i, j]) (.tup [ea, eb])) := ps_imp (ps_par hc hN hi hj hij hx hy ha hw hs) fun D σ H ⟨ρ, φ, h, sm, re, o⟩ => by
  have o' : OutS (zOf X) X.mg φ H W D ((evGs C [ea, eb] ρ h).st ρ fun l h1 => (tupO l h1).st ρ fun v h2 => stTg C (.tup [i, j]) v ρ h2) := by
    have e : exS C (.asg (.tup [i, j]) (.tup [ea, eb])) ρ h = (evGs C [ea, eb] ρ h).st ρ fun l h1 => (tupO l h1).st ρ fun v h2 => stTg C (.tup [i, j]) v ρ h2 := by
      show (((evGs C [ea, eb] ρ h).bind fun l h1 => tupO l h1).st ρ fun v h1 => stTg C (.tup [i, j]) v ρ h1) = _
      cases evGs C [ea, eb] ρ h <;> rfl
    rw [← e]
    exact o
  refine ⟨ρ, φ, h, sm, re, (OutS.st (rel := RVs (zOf X)) re o').imp fun vs H1 ⟨φ1, l, h1, x1, s1, r1, o1⟩ => ?_⟩
  unfold tupO at o1
  split at o1
  · have o2 : OutS (zOf X) X.mg φ1 H1 W D (match zbx ρ [i, j] l with | some ρ' => .nx ρ' h1 | none => .no) := o1
    cases e : zbx ρ [i, j] l with
    | none => rw [e] at o2; exact (show False from o2).elim
    | some ρ' =>
      rw [e] at o2
      obtain ⟨g1, g2⟩ := setAll_ok (re.mono x1) r1 e
      match vs, g2, g1 with
      | [v, w], _, g1 => exact ⟨v, w, rfl, OutS.atN o2 s1 g1⟩
  · exact (show False from o1).elim
/-- o[i] = e -/
theorem js_sub {o i : Expr} {eo ei : E} {tpos : Pos} (hu : X.A.units + 66 < cLine) (ha : JE X W C a ea) (ho : JE X W C o eo) (hi : JE X W C i ei)
    (hg : ∀ v, assign (.Subscript o i tpos) X.env v = (do
      let ov ← holding [v] (eval o X.env)
      let iv ← holding [v, ov] (eval i X.env)
      standAt tpos
      holding [v, ov, iv] (setItem ov iv v)
      release [v, ov, iv] []) := by intro _; rfl)
    (hs : swapsWithSole [.Subscript o i tpos] a pos.line X.env = pure false := by rfl) (hw : swappedStores [.Subscript o i tpos] a X.env = pure none := by rfl)
    (h1 : (assignEach [.Subscript o i tpos] X.env).map (·.2) = [assign (.Subscript o i tpos) X.env] := by rfl) : JS X W C (.Assign [.Subscript o i tpos] a pos) (.asg (.sub eo ei) ea) :=
  ps_imp (ps_asg ha (pg_sub ho hi (set_ok (by omega)) hg) hs hw h1) fun D σ H ⟨ρ, φ, h, sm, re, oo⟩ =>
    ⟨ρ, φ, h, sm, re, (OutS.st (rel := RV (zOf X)) re (show OutS (zOf X) X.mg φ H W D ((evE C ea ρ h).st ρ fun v h1 => (evE C eo ρ h1).st ρ fun x h2 => (evE C ei ρ h2).st ρ fun y h3 => match setop x y v h3 with | some h4 => .nx ρ h4 | none => .no) from oo)).imp fun x H1 ⟨φ1, v, h1, x1, s1, r1, o1⟩ =>
      ⟨ρ, φ1, h1, s1, re.mono x1, (OutS.st (rel := RV (zOf X)) (re.mono x1) o1).imp fun y H2 ⟨φ2, w, h2, x2, s2, r2, o2⟩ =>
        ⟨ρ, φ2, h2, s2, (re.mono x1).mono x2, (OutS.st (rel := RV (zOf X)) ((re.mono x1).mono x2) o2).imp fun z H3 ⟨φ3, u, h3, x3, s3, r3, o3⟩ => by
          cases e : setop w u v h3 with
          | none => rw [e] at o3; exact (show False from o3).elim
          | some h4 =>
            rw [e] at o3
            exact ⟨φ3, h3, w, u, v, h4, s3, r2.mono x3, r3, (r1.mono x2).mono x3, e, fun H4 x4 s4 => (show OutS (zOf X) X.mg φ3 H3 W D (.nx ρ h4) from o3) φ3 H4 σ x4 s4 ((((re.mono x1).mono x2).mono x3).mono x4)⟩⟩⟩⟩
theorem iop_ok {W' : XK} (op : Operator) : OpR X (inplaceOp op) (rOp (zOf X) X.mg W' (iopF op)) := by
  intro pins s σ H x y v u Q I rx ry hh
  obtain ⟨φ, h, a, b, sm, ra, rb, o⟩ := hh
  unfold iopF at o
  split at o
  · exact iop_add pins s σ H x y v u Q I rx ry ⟨_, _, ra, rb, o.at sm rfl⟩
  · exact iop_sub pins s σ H x y v u Q I rx ry ⟨_, _, ra, rb, o.at sm rfl⟩
  · split at o
    · rename_i hm
      exact iop_add_str pins s σ H x y v u Q I rx ry ⟨_, _, ra, rb, line_ok hm, o.at sm rfl⟩
    · exact o.elim
  · exact o.elim
theorem pget_ok : PGet X (fun x y H Q => ∃ W', rOp (zOf X) X.mg W' getL x y H Q) := by
  intro pins s σ H o i ov iv Q I ro ri hh
  obtain ⟨W', φ, h, a, b, sm, ra, rb, oo⟩ := hh
  unfold getL at oo
  split at oo
  · rename_i n k
    split at oo
    · rename_i hk
      split at oo
      · rename_i l e1
        obtain ⟨p, e2, q⟩ := oo.some
        obtain ⟨ad, vs, f1, g1, r1⟩ := sm.lst e1
        obtain ⟨b1, hx, q1⟩ := ra
        rw [f1] at q1
        cases q1
        obtain ⟨w, e3, rw'⟩ := r1.get e2
        subst hx
        cases ro
        rw [show i = .int k from rb] at ri
        obtain ⟨t, rfl⟩ := ri
        obtain ⟨its, rr, pl, hz⟩ := I.list (SqL.of g1)
        obtain ⟨u, eu, ru⟩ := rr.get e3
        have hl := rr.length
        have hlt := (List.getElem?_eq_some_iff.mp e3).1
        have hs := sizeLine_eq
        exact wpAny_getItem_list pl.isList hk (by omega) (by simpa using eu) ⟨w, H, I, ru, q.at sm rw'⟩
      · exact oo.elim
    · exact oo.elim
  · exact oo.elim
theorem js_augs {o i : Expr} {eo ei : E} {op : Operator} {tpos : Pos} (hu : X.A.units + 66 < cLine) (ho : JE X W C o eo) (hi : JE X W C i ei) (ha : JE X W C a ea)
    (hg : ∀ ov iv new, augStore i ov iv new = (do holding [new, ov, iv] (setItem ov iv new); release [new, ov, iv] []; pure .next) := by intros; rfl) : JS X W C (.AugAssign (.Subscript o i tpos) op a pos) (.augs eo ei op ea) :=
  ps_imp (ps_augS (tip := fun x y H Q => ∃ W', rOp (zOf X) X.mg W' (iopF op) x y H Q) ho hi pget_ok ha (opr_any fun W' => iop_ok (W' := W') op) (set_ok (by omega)) hg) fun D σ H ⟨ρ, φ, h, sm, re, oo⟩ =>
    ⟨ρ, φ, h, sm, re, (OutS.st (rel := RV (zOf X)) re (show OutS (zOf X) X.mg φ H W D ((evE C eo ρ h).st ρ fun ov h1 => (evE C ei ρ h1).st ρ fun iv h2 => (getL ov iv h2).st ρ fun x h3 => (evE C ea ρ h3).st ρ fun y h4 => (iopF op x y h4).st ρ fun z h5 => match setop ov iv z h5 with | some h6 => .nx ρ h6 | none => .no) from oo)).imp fun x H1 ⟨φ1, ov, h1, x1, s1, r1, o1⟩ =>
      ⟨ρ, φ1, h1, s1, re.mono x1, (OutS.st (rel := RV (zOf X)) (re.mono x1) o1).imp fun y H2 ⟨φ2, iv, h2, x2, s2, r2, o2⟩ =>
        ⟨_, φ2, h2, ov, iv, s2, r1.mono x2, r2, (OutS.st (rel := RV (zOf X)) ((re.mono x1).mono x2) o2).imp fun g H3 ⟨φ3, gv, h3, x3, s3, r3, o3⟩ =>
          ⟨ρ, φ3, h3, s3, ((re.mono x1).mono x2).mono x3, (OutS.st (rel := RV (zOf X)) (((re.mono x1).mono x2).mono x3) o3).imp fun y4 H4 ⟨φ4, yv, h4, x4, s4, r4, o4⟩ =>
            ⟨_, φ4, h4, gv, yv, s4, r3.mono x4, r4, (OutS.st (rel := RV (zOf X)) ((((re.mono x1).mono x2).mono x3).mono x4) o4).imp fun z H5 ⟨φ5, zv, h5, x5, s5, r5, o5⟩ => by
              have re5 := ((((re.mono x1).mono x2).mono x3).mono x4).mono x5
              cases e : setop ov iv zv h5 with
              | none => rw [e] at o5; exact (show False from o5).elim
              | some h6 =>
                rw [e] at o5
                exact ⟨φ5, h5, ov, iv, zv, h6, s5, (((r1.mono x2).mono x3).mono x4).mono x5, ((r2.mono x3).mono x4).mono x5, r5, e, fun H6 x6 s6 => (show OutS (zOf X) X.mg φ5 H5 W D (.nx ρ h6) from o5) φ5 H6 σ x6 s6 (re5.mono x6)⟩⟩⟩⟩⟩⟩
end
end Sb
namespace Sb
open PySem PySem.Spec L2
section
variable {K : ZZ} {mg : Str → Option Value} {φ : List Addr} {H : Hp} {W : WX} {D D' : Ends}
/-- a turn's end -/
theorem OutS.turn {m : RS} {f : Env → PH → RS} (h : OutS K mg φ H W D (m.turn f)) (hN : ∀ φ' H' σ' ρ' h', Ext φ φ' H H' → Sim K φ' h' H' → RE K φ' H' ρ' σ' → OutS K mg φ' H' W D (f ρ' h') → D'.nx σ' H') (hC : D'.ct = D'.nx) (hB : D'.bk = D.nx) (hR : D'.rt = D.rt) : OutS K mg φ H W D' m := by
  cases m with
  | nx ρ1 h1 => exact fun φ' H' σ' x s r => hN φ' H' σ' ρ1 h1 x s r (OutS.mono x h)
  | ct ρ1 h1 =>
    intro φ' H' σ' x s r
    rw [hC]
    exact hN φ' H' σ' ρ1 h1 x s r (OutS.mono x h)
  | bk ρ1 h1 =>
    intro φ' H' σ' x s r
    rw [hB]
    exact h φ' H' σ' x s r
  | rt v h1 =>
    intro φ' H' y x s r
    rw [hR]
    exact h φ' H' y x s r
  | ex y ρ1 h1 => exact h
  | no => exact h
end
section
variable {X : Cx} {W : WX} {C : Calls} {a b c tg iter : Expr} {st : Stmt} {sts rest : List Stmt} {pos : Pos} {ea eb ec : E} {s : S} {ss ss2 : List S}
theorem js_while0 (hp : PassesOwn (model X.prog X.w) X.A X.env X.xe) (hc : JT X W C c ec) (hb : JSs X W C sts ss) : JS X W C (.While c sts [] pos) (.whl ec ss) := ps_imp (ps_while hp hc hb) fun D σ H ⟨ρ, φ, h, sm, re, o⟩ => by
  have o' : OutS (zOf X) X.mg φ H W D (whileF (fun ρ h => evT C ec ρ h) (fun ρ h => exSs C ss ρ h) ρ h) := o
  have ne : whileF (fun ρ h => evT C ec ρ h) (fun ρ h => exSs C ss ρ h) ρ h ≠ .no := fun z => by
    rw [z] at o'
    exact o'
  obtain ⟨n, _, e⟩ := whileF_some ne
  rw [e] at o'
  refine ⟨fun m σ H => ∃ ρ φ h, Sim (zOf X) φ h H ∧ RE (zOf X) φ H ρ σ ∧ OutS (zOf X) X.mg φ H W D (zbj (fun ρ h => evT C ec ρ h) (fun ρ h => exSs C ss ρ h) m ρ h), ⟨n, ρ, φ, h, sm, re, o'⟩, ?_⟩
  rintro m σ H ⟨ρ, φ, h, sm, re, o⟩
  cases m with
  | zero => exact (show False from o).elim
  | succ m =>
    refine ⟨ρ, φ, h, sm, re, (OutS.st (rel := RI) re (show OutS (zOf X) X.mg φ H W D ((evT C ec ρ h).st ρ fun k h1 => if k then (exSs C ss ρ h1).turn (zbj (fun ρ h => evT C ec ρ h) (fun ρ h => exSs C ss ρ h) m) else .nx ρ h1) from o)).imp fun k H1 ⟨φ1, k1, h1, x1, s1, r1, o1⟩ => ?_⟩
    have r1' : k1 = k := r1
    subst r1'
    cases k1 with
    | false =>
      simp only [Bool.false_eq_true, if_false] at o1 ⊢
      exact OutS.atN o1 s1 (re.mono x1)
    | true =>
      simp only [if_true] at o1 ⊢
      refine ⟨fun σ H => ∃ ρ φ h, Sim (zOf X) φ h H ∧ RE (zOf X) φ H ρ σ ∧ OutS (zOf X) X.mg φ H W D (zbj (fun ρ h => evT C ec ρ h) (fun ρ h => exSs C ss ρ h) m ρ h), fun σ' H' z => ⟨m, Nat.lt_succ_self m, z⟩, ρ, φ1, h1, s1, re.mono x1, ?_⟩
      exact OutS.turn o1 (fun φ' H' σ' ρ' h' x s r o => ⟨ρ', φ', h', s, r, o⟩) rfl rfl rfl
theorem js_for0 {is : List Nat} {one : TgK} {k : ITK} {its : List E} (hp : PassesOwn (model X.prog X.w) X.A X.env X.xe) (hc : X.calm = true) (hi : JI X W C tg iter k its) (hg : PG X tg (gT X.K is one)) (hb : JSs X W C sts ss)
    (hs : ∀ x, foldedSetIterable iter X.env x = pure x := by intro _; rfl) : JS X W C (.For tg iter sts [] pos) (.fr is one k its ss) := ps_imp (ps_for hp hc hi hg hb hs) fun D σ H ⟨ρ, φ, h, sm, re, o⟩ => by
  have o' : OutS (zOf X) X.mg φ H W D ((evI C k its ρ h).st ρ fun w h1 => forLoop w.2 (fun ρ x => zbo ρ is one x) (fun ρ h => exSs C ss ρ h) w.1 ρ h1) := by
    have e : exS C (.fr is one k its ss) ρ h = (evI C k its ρ h).st ρ fun w h1 => forLoop w.2 (fun ρ x => zbo ρ is one x) (fun ρ h => exSs C ss ρ h) w.1 ρ h1 := by
      unfold evI
      show ((evGs C its ρ h).st ρ _) = _
      cases evGs C its ρ h with
      | ok l h1 =>
        rw [R.st_ok, R.bind_ok]
        cases zcm k l h1 with
        | none => rfl
        | some w => rfl
      | ex x h1 => rfl
      | no => rfl
    rw [← e]
    exact o
  refine ⟨ρ, φ, h, sm, re, (OutS.st (rel := relW (zOf X)) re o').imp fun J H1 ⟨φ1, w, h1, x1, s1, wk, o1⟩ => ?_⟩
  obtain ⟨items, kp⟩ := w
  have wk : WalkOk (zOf X) J φ1 H1 items kp := wk
  refine ⟨fun i m σ2 H2 => ∃ ρ2 φ2 h2, m = (items.drop i).length ∧ Ext φ1 φ2 H1 H2 ∧ Sim (zOf X) φ2 h2 H2 ∧ RE (zOf X) φ2 H2 ρ2 σ2 ∧ OutS (zOf X) X.mg φ2 H2 W D (forLoop kp (fun ρ x => zbo ρ is one x) (fun ρ h => exSs C ss ρ h) (items.drop i) ρ2 h2),
    ⟨items.length, ρ, φ1, h1, rfl, Ext.refl _ _, s1, re.mono x1, o1⟩, ?_⟩
  rintro i m σ2 H2 ⟨ρ2, φ2, h2, hm, x2, s2, re2, o2⟩
  cases e : items.drop i with
  | nil =>
    rw [e] at o2
    unfold forLoop at o2
    split at o2
    · rename_i hs
      exact .inl ⟨wk.stop i φ2 h2 H2 x2.kp s2 hs (List.drop_eq_nil_iff.mp e), OutS.atN o2 s2 re2⟩
    · exact (show False from o2).elim
  | cons p rest =>
    have ei : items[i]? = some p := by
      have := congrArg (·[0]?) e
      simpa using this
    have er : items.drop (i + 1) = rest := by
      rw [← List.drop_drop, e]
      rfl
    rw [e] at o2
    unfold forLoop at o2
    split at o2
    · rename_i hs
      obtain ⟨hgo, hy⟩ := wk.go i φ2 h2 H2 p x2.kp s2 hs ei
      refine .inr ⟨hgo, fun σ3 H3 => ∃ ρ3 φ3 h3, Ext φ1 φ3 H1 H3 ∧ Sim (zOf X) φ3 h3 H3 ∧ RE (zOf X) φ3 H3 ρ3 σ3 ∧ OutS (zOf X) X.mg φ3 H3 W D (forLoop kp (fun ρ x => zbo ρ is one x) (fun ρ h => exSs C ss ρ h) rest ρ3 h3), fun σ3 H3 z => ?_, fun v H3 y => ?_⟩
      · obtain ⟨ρ3, φ3, h3, z1, z2, z3, z4⟩ := z
        refine ⟨rest.length, by rw [hm, e, List.length_cons]; omega, ρ3, φ3, h3, by rw [er], z1, z2, z3, ?_⟩
        rw [er]
        exact z4
      · obtain ⟨ex, sx, rx⟩ := hy v H3 y
        cases eb : zbo ρ2 is one p with
        | none => simp only [eb] at o2; exact (show False from o2).elim
        | some ρ3 =>
          simp only [eb] at o2
          refine gT_ok (re2.mono ex) rx eb fun σ3 re3 _ => ⟨ρ3, φ2, h2, sx, re3, ?_⟩
          exact OutS.turn (OutS.mono ex o2) (fun φ' H' σ' ρ' h' x s r o => ⟨ρ', φ', h', (x2.trans ex).trans x, s, r, o⟩) rfl rfl rfl
    · exact (show False from o2).elim
end
structure Cq (X : Cx) (W : WX) (k : Nat) : Prop where
  calm : X.calm = true
  nd : X.N.Nodup
  hr : Room (2 * k + 4) X.A
  tk : L2N.Takes X W
  po : PassesOwn (model X.prog X.w) X.A X.env X.xe
theorem Cq.blk {X : Cx} {W : WX} {k : Nat} (c : Cq X W k) (s : Shared) (H : Hp) (scope : Scope) (cenv : PySem.Env) (fp : List Addr) : Cq (X.blk s H scope cenv fp) W0 k := ⟨c.calm, c.nd, c.hr, takesN0, PassesOwn.never⟩
/-- a loop's or comprehension's target: one name, names -/
theorem zcg {X : Cx} {i : Nat} {x : Str} {pos : Pos} (hN : X.N.Nodup) (hi : X.N[i]? = some x := by rfl) (hx : Loc X.env.scope x := by first | exact .inl rfl | exact .inr rfl) (hf : X.fn x = true ∨ X.env.scope.names.lookup x = some .local := by first | exact .inl rfl | exact .inr rfl | assumption) : PG X (.Name x pos) (gT X.K [i] .one) := pg_name hN hi hx hf
theorem tgs_nil {X : Cx} : PGs X [] (gNs []) := pgs_nil
theorem za2 {X : Cx} {i : Nat} {is : List Nat} {x : Str} {pos : Pos} {es : List Expr} (hN : X.N.Nodup) (h2 : PGs X es (gNs is)) (hi : X.N[i]? = some x := by rfl) (hx : Loc X.env.scope x := by first | exact .inl rfl | exact .inr rfl) (hf : X.fn x = true ∨ X.env.scope.names.lookup x = some .local := by first | exact .inl rfl | exact .inr rfl | assumption)
    (hs : (assignEach (.Name x pos :: es) X.env).map (·.2) = assign (.Name x pos) X.env :: (assignEach es X.env).map (·.2) := by rfl) : PGs X (.Name x pos :: es) (gNs (i :: is)) := pgs_cons (pg_name hN hi hx hf) h2 hs
theorem tg_tup {X : Cx} {es : List Expr} {kk : Nat} {pos : Pos} {is : List Nat} (hc : X.calm = true) (h : PGs X es (gNs is)) (hn : (assignEach es X.env).length = is.length := by rfl) (hst : (assignEach es X.env).findIdx? (·.1) = none := by rfl) : PG X (.Tuple es kk pos) (gT X.K is .tup) := pg_tup hc h hn hst
theorem tg_tup' {X : Cx} {es : List Expr} {kk : Nat} {pos : Pos} {is : List Nat} (hc : X.calm = true) (h : PGs X es (gNs is)) (hn : (assignEach es X.env).length = is.length := by rfl) (hst : (assignEach es X.env).findIdx? (·.1) = none := by rfl) : PG X (.Tuple es kk pos) (gTup X.K is.length (gNs is)) := pg_tup hc h hn hst
/-- a comprehension's test -/
theorem cd_none {X : Cx} {C : Calls} : PTs X [] (tCond (zOf X) X.mg C none) := pts_nil
theorem cd_some {X : Cx} {C : Calls} {a : Expr} {e : E} (h : JT X W0 C a e) : PTs X [a] (tCond (zOf X) X.mg C (some e)) := pts_one h
/-- all arguments are given -/
theorem binds_full {K : PySem.W.Frag} {x qual : Str} {params : Arguments} {body : List Stmt} {scope : Scope} {dvs : List V} {kws : List (Str × V)} {f : Addr} {fd : FuncData} {ps : List Str} (F : FunD K x qual params body scope dvs kws f fd) (hd : dvs ≠ [])
    (h : ∀ (T : Addr) (kV doc pm : Value) (an : Option Addr) (cdv ct : Value) (us its : List Value), us.length = ps.length → its.length = dvs.length →
      ∃ k, bindArgs (PySem.W.fnOf x qual params body scope (.ref T) kV doc pm an cdv ct) ⟨us, []⟩ = seqItems? (.ref T) >>= k ∧ k (some its.toArray) = pure (ps.zip us)) : Binds K fd ps [] := by
  obtain ⟨ds, v, b⟩ := F.binds1 (ps := ps) ps.length dvs.length hd (by simp) fun T kV doc pm an cdv ct us its h1 h2 => by
    obtain ⟨k, e1, e2⟩ := h T kV doc pm an cdv ct us its h1 h2
    exact ⟨k, e1, by rw [e2, List.drop_of_length_le (by omega), List.append_nil]⟩
  rw [List.drop_length] at v
  cases v
  exact b
theorem start_re {K : ZZ} {φ : List Addr} {H : Hp} : ∀ {ps : List PV} {vs : List V} (n : Nat), RVs K φ H ps vs → RE K φ H (ps.map some ++ List.replicate n none) (vs.map some ++ List.replicate n none)
  | [], vs, n, r => by
    have : vs = [] := r
    subst this
    show RE K φ H (List.replicate n none) (List.replicate n none)
    induction n with
    | zero => exact rfl
    | succ n ih => exact ⟨none, List.replicate n none, rfl, fun x e => (by cases e), ih⟩
  | p :: ps, vs, n, r => by
    obtain ⟨v, t, e, q, s⟩ := r
    subst e
    exact ⟨some v, _, rfl, fun x e => ⟨v, rfl, by cases e; exact q⟩, start_re n s⟩
theorem FunD.okC {P : Program} {w : World} {K : PySem.W.Frag} {mg : Str → Option Value} {base : Heap} {x qual : Str} {params : Arguments} {body : List Stmt} {scope : Scope} {dvs : List V} {kws : List (Str × V)} {f : Addr} {fd : FuncData} {CX : CXT} {N ps : List Str} {k : Nat} {sp : Sp} (F : FunD K x qual params body scope dvs kws f fd) (S : FnScope N ps scope) (len : ∀ vs H Q E, sp vs H Q E → vs.length = ps.length)
    (hbody : ∀ (cdv : Value) (A : Around) (outer : List PySem.Env) (s : Shared) (H : Hp) (vs : List V) (Q : VK) (E : XK), fd.code = cdv → Room k (A.deeper (PyProof.Rows.envOfC qual scope s.heap.objs.size f cdv)) → sp vs H Q E →
      ∃ t, PSs (cxOf CX P w K mg base N qual scope f cdv A outer s H E) body t ∧ t { nx := fun _ H' => Q .non H', rt := Q } (L2.start N vs) H) : FnOk P w K mg base CX (k + 1) f fd ps sp := by
  obtain ⟨oc, od, dV, kV, doc, pm, an, cdv, ct, osl, rfl, lk, hcd, _, _⟩ := F.ex
  exact fn_of lk hcd S len fun A outer s H vs Q E hr hsp => hbody cdv A outer s H vs Q E rfl hr hsp
theorem zbe {P : Program} {w : World} {K : PySem.W.Frag} {mg : Str → Option Value} {base : Heap} {x qual : Str} {params : Arguments} {body : List Stmt} {scope : Scope} {dvs : List V} {kws : List (Str × V)} {f : Addr} {fd : FuncData} {N ps : List Str} {k : Nat} {tbl : Nat → Fn} {fi : Nat}
    (F : FunD K x qual params body scope dvs kws f fd) (S : FnScope N ps scope) (hn : N.length = (tbl fi).ns) (hp : ps.length = (tbl fi).np)
    (hb : ∀ (cdv : Value) (A : Around) (outer : List PySem.Env) (s : Shared) (H : Hp) (E : XK), fd.code = cdv → Cq (cxOf (L2N.CX P w) P w K mg base N qual scope f cdv A outer s H E) (fun c d _ H => E c d H) k → JSs (cxOf (L2N.CX P w) P w K mg base N qual scope f cdv A outer s H E) (fun c d _ H => E c d H) (call tbl k) body (tbl fi).body) :
    FnOk P w K mg base (L2N.CX P w) (2 * (k + 1) + 3) f fd ps (spF ⟨K, [], P, w⟩ mg (call tbl (k + 1)) fi ps.length) := by
  refine FunD.okC F S (fun vs H Q E h => h.1) fun cdv A outer s H vs Q E hcd hr h => ?_
  obtain ⟨hl, φ, hh, pl, sm, r, o⟩ := h
  refine ⟨_, hb cdv A outer s H E hcd ⟨rfl, S.nd, hr, L2N.takes_of rfl rfl rfl rfl, PassesOwn.leaving⟩, ?_⟩
  have o' : Out ⟨K, [], P, w⟩ mg (RV ⟨K, [], P, w⟩) φ H E Q (runFn (call tbl k) (tbl fi) pl hh) := o
  unfold runFn at o'
  split at o'
  · rename_i hlen
    have re := start_re (N.length - vs.length) r
    have e1 : zas (tbl fi).ns pl = pl.map some ++ List.replicate (N.length - vs.length) none := by
      unfold zas
      rw [hn, r.length]
    refine ⟨zas (tbl fi).ns pl, φ, hh, sm, by rw [e1]; exact re, ?_⟩
    generalize exSs (call tbl k) (tbl fi).body (zas (tbl fi).ns pl) hh = m at o'
    cases m with
    | nx ρ h1 => exact fun φ' H' σ' x s r => o' φ' H' .non x s rfl
    | rt v h1 => exact fun φ' H' y x s r => o' φ' H' y x s r
    | ex y ρ h1 => exact fun φ' H' σ' c d x s _ r => o' φ' H' c d x s r
    | bk ρ h1 => exact (show False from o').elim
    | ct ρ h1 => exact (show False from o').elim
    | no => exact (show False from o').elim
  · exact (show False from o').elim
theorem zau {P : Program} {w : World} {K : PySem.W.Frag} {mg : Str → Option Value} {base : Heap} {f : Addr} {fd : FuncData} {ps : List Str} {tbl : Nat → Fn} {fi : Nat} : FnOk P w K mg base (L2N.CX P w) (2 * 0 + 3) f fd ps (spF ⟨K, [], P, w⟩ mg (call tbl 0) fi ps.length) :=
  ⟨fun vs H Q E h => h.1, fun A outer s H args us vs Q E hr he hb hv h => by
    obtain ⟨_, φ, hh, pl, sm, r, o⟩ := h
    exact (show False from o).elim⟩
mutual
theorem pvB_ok {K : PySem.W.Frag} : ∀ {p : PV} {u : Value}, pvB K p u = true → ∃ v, RelV v u ∧ ∀ pn P w φ H, RV ⟨K, pn, P, w⟩ φ H p v
  | .non, u, e => by
    cases u with
    | none => exact ⟨.non, rfl, fun _ _ _ _ _ => rfl⟩
    | _ => cases e
  | .bl b, u, e => by
    cases u with
    | bool c =>
      have : b = c := eq_of_beq (show (b == c) = true from e)
      subst this
      exact ⟨.bl b, rfl, fun _ _ _ _ _ => rfl⟩
    | _ => cases e
  | .int b, u, e => by
    cases u with
    | int c t =>
      have : b = c := of_decide_eq_true e
      subst this
      exact ⟨.int b, ⟨t, rfl⟩, fun _ _ _ _ _ => rfl⟩
    | _ => cases e
  | .str b, u, e => by
    cases u with
    | str c t =>
      have : b = c := of_decide_eq_true e
      subst this
      exact ⟨.str b, ⟨t, rfl⟩, fun _ _ _ _ _ => rfl⟩
    | _ => cases e
  | .tup l, u, e => by
    cases u with
    | ref a =>
      simp only [pvB] at e
      split at e
      · rename_i c od its n sl q
        obtain ⟨h1, h2⟩ := Bool.and_eq_true_iff.mp e
        obtain ⟨h3, h4⟩ := Bool.and_eq_true_iff.mp h2
        obtain ⟨vs, rv, r⟩ := pvsB_ok h4
        refine ⟨.ref a, rfl, fun pn P w φ H => ⟨a, vs, rfl, .inr ⟨_, its, n, q, ?_, rfl, of_decide_eq_true h3, rv⟩, r pn P w φ H⟩⟩
        exact congrArg Value.type (of_decide_eq_true h1)
      · cases e
    | _ => cases e
  | .cl l, u, e => by
    cases u with
    | ref a =>
      simp only [pvB] at e
      split at e
      · rename_i c its n sl q
        obtain ⟨h1, h2⟩ := Bool.and_eq_true_iff.mp e
        obtain ⟨h3, h4⟩ := Bool.and_eq_true_iff.mp h2
        obtain ⟨vs, rv, r⟩ := pvsB_ok h4
        refine ⟨.ref a, rfl, fun pn P w φ H => ⟨a, vs, rfl, .inr ⟨_, its, n, q, ?_, rfl, rfl, of_decide_eq_true h3, rv⟩, r pn P w φ H⟩⟩
        exact congrArg Value.type (of_decide_eq_true h1)
      · cases e
    | _ => cases e
  | .ref n, u, e => by cases u <;> cases e
  | .ty n, u, e => by cases u <;> cases e
  | .cls n, u, e => by cases u <;> cases e
  | .xc n m l, u, e => by cases u <;> cases e
  | .ste l, u, e => by cases u <;> cases e
theorem pvsB_ok {K : PySem.W.Frag} : ∀ {l : List PV} {us : List Value}, pvsB K l us = true → ∃ vs, Vals vs us ∧ ∀ pn P w φ H, RVs ⟨K, pn, P, w⟩ φ H l vs
  | [], [], _ => ⟨[], .nil, fun _ _ _ _ _ => rfl⟩
  | [], _ :: _, e => by cases e
  | _ :: _, [], e => by cases e
  | p :: l, u :: us, e => by
    obtain ⟨h1, h2⟩ := Bool.and_eq_true_iff.mp (show (pvB K p u && pvsB K l us) = true from e)
    obtain ⟨v, r1, r2⟩ := pvB_ok h1
    obtain ⟨vs, r3, r4⟩ := pvsB_ok h2
    exact ⟨v :: vs, .cons r1 r3, fun pn P w φ H => RVs.cons (r2 pn P w φ H) (r4 pn P w φ H)⟩
end
/-- what a body may use of a constant -/
def ConI (K : PySem.W.Frag) (mg : Str → Option Value) (x : Str) (p : PV) : Prop := ∃ u v, mg x = some u ∧ RelV v u ∧ ∀ pn P w φ H, RV ⟨K, pn, P, w⟩ φ H p v
theorem conB_ok {K : PySem.W.Frag} {h : Heap} {mg : Str → Option Value} (X : K.In h) (G : h.Ns mainGlobals mg) {x : Str} {p : PV} (e : conB K x p = true) : ConI K mg x p := by
  unfold conB at e
  split at e
  · rename_i u q
    obtain ⟨v, r1, r2⟩ := pvB_ok e
    exact ⟨u, v, PySem.W.mg_of X G q, r1, r2⟩
  · cases e
theorem je_con {X : Cx} {W : WX} {C : Calls} {x : Str} {p : PV} {pos : Pos} (c : ConI X.K X.mg x p) (hg : Gl X x := by rfl) (hd : (x == ("__debug__" : Str)) = false := by decide) : JE X W C (.Name x pos) (.lit p) := by
  obtain ⟨u, v, hm, r, rr⟩ := c
  exact je_glob hm r (rr (hotPn X) X.prog X.w) hg hd
theorem cx_false {P : Program} {w : World} {H : Hp} {s : Shared} {e : Value} {s' : Shared} (h : L2N.CX P w [] H s (fun _ _ _ => False) e s') : False := by
  obtain ⟨_, _, _, _, _, _, _, _, _, _, _, _, z⟩ := h
  exact z.elim
end Sb
namespace Sb
open PySem
def R.Sat {α : Type} (m : R α) (Q : α → PH → Prop) : Prop := match m with | .ok a h => Q a h | _ => False
@[simp] theorem sat_ok {α : Type} (a : α) (h : PH) (Q : α → PH → Prop) : (R.ok a h).Sat Q = Q a h := rfl
@[simp] theorem sat_no {α : Type} (Q : α → PH → Prop) : (R.no : R α).Sat Q = False := rfl
@[simp] theorem sat_ex {α : Type} (x : Exn) (h : PH) (Q : α → PH → Prop) : (R.ex x h : R α).Sat Q = False := rfl
@[simp] theorem sat_bind {α β : Type} (m : R α) (f : α → PH → R β) (Q : β → PH → Prop) : (m.bind f).Sat Q = m.Sat fun a h => (f a h).Sat Q := by
  cases m <;> rfl
@[simp] theorem sat_calm {α : Type} (m : R α) (Q : α → PH → Prop) : m.calm.Sat Q = m.Sat Q := by
  cases m <;> rfl
theorem R.Sat.imp {α : Type} {m : R α} {Q Q' : α → PH → Prop} (s : m.Sat Q) (f : ∀ a h, Q a h → Q' a h) : m.Sat Q' := by
  cases m with
  | ok a h => exact f a h s
  | ex x h => exact s
  | no => exact s
theorem R.Sat.ex {α : Type} {m : R α} {Q : α → PH → Prop} (s : m.Sat Q) : ∃ a h, m = .ok a h ∧ Q a h := by
  cases m with
  | ok a h => exact ⟨a, h, rfl, s⟩
  | ex x h => exact s.elim
  | no => exact s.elim
theorem R.Sat.of {α : Type} {m : R α} {Q : α → PH → Prop} {a : α} {h : PH} (e : m = .ok a h) (q : Q a h) : m.Sat Q := by
  rw [e]
  exact q
@[simp] theorem sat_ofO {α : Type} (o : Option α) (h : PH) (Q : α → PH → Prop) : (ofO o h).Sat Q = ∃ a, o = some a ∧ Q a h := by
  cases o with
  | none => simp [ofO]
  | some a => simp [ofO]
@[simp] theorem sat_asB (m : R PV) (Q : Bool → PH → Prop) : (asB m).Sat Q = m.Sat fun x h => match x with | .bl b => Q b h | _ => False := by
  cases m with
  | ok p h => cases p <;> rfl
  | ex x h => rfl
  | no => rfl
/-- statements: N the next, T a return -/
def RS.Sat (m : RS) (N : Env → PH → Prop) (T : PV → PH → Prop) : Prop := match m with | .nx ρ h => N ρ h | .rt v h => T v h | _ => False
@[simp] theorem ssat_nx (ρ : Env) (h : PH) (N : Env → PH → Prop) (T : PV → PH → Prop) : (RS.nx ρ h).Sat N T = N ρ h := rfl
@[simp] theorem ssat_rt (v : PV) (h : PH) (N : Env → PH → Prop) (T : PV → PH → Prop) : (RS.rt v h).Sat N T = T v h := rfl
@[simp] theorem ssat_no (N : Env → PH → Prop) (T : PV → PH → Prop) : RS.no.Sat N T = False := rfl
@[simp] theorem ssat_seq (m : RS) (f : Env → PH → RS) (N : Env → PH → Prop) (T : PV → PH → Prop) : (m.seq f).Sat N T = m.Sat (fun ρ h => (f ρ h).Sat N T) T := by
  cases m <;> rfl
@[simp] theorem ssat_st {α : Type} (m : R α) (ρ : Env) (f : α → PH → RS) (N : Env → PH → Prop) (T : PV → PH → Prop) : (m.st ρ f).Sat N T = m.Sat fun a h => (f a h).Sat N T := by
  cases m <;> rfl
theorem RS.Sat.imp {m : RS} {N N' : Env → PH → Prop} {T T' : PV → PH → Prop} (s : m.Sat N T) (f : ∀ ρ h, N ρ h → N' ρ h) (g : ∀ v h, T v h → T' v h) : m.Sat N' T' := by
  cases m with
  | nx ρ h => exact f ρ h s
  | rt v h => exact g v h s
  | bk _ _ => exact s
  | ct _ _ => exact s
  | ex _ _ _ => exact s
  | no => exact s
section
variable {C : Calls} {t : Bool} {ρ : Env} {h : PH} {a b c : E}
@[simp] theorem g_var (i : Nat) : evG C (.var i) t ρ h = fin t (ofO (ρ.get i) h) := by rfl
@[simp] theorem g_lit (v : PV) : evG C (.lit v) t ρ h = fin t (.ok v h) := by rfl
@[simp] theorem g_bin (op : Operator) : evG C (.bin op a b) t ρ h = fin t ((evG C a false ρ h).bind fun x h1 => (evG C b false ρ h1).bind fun y h2 => binop op x y h2) := by rfl
@[simp] theorem g_neg : evG C (.neg a) t ρ h = fin t ((evG C a false ρ h).bind fun x h1 => match x with | .int i => .ok (.int (-i)) h1 | _ => .no) := by rfl
@[simp] theorem g_nt : evG C (.nt a) t ρ h = (evG C a t ρ h).bind fun x h1 => match x with | .bl b => .ok (.bl (!b)) h1 | _ => .no := by rfl
@[simp] theorem g_and : evG C (.band a b) t ρ h = (evG C a t ρ h).bind fun x h1 => match x with | .bl true => evG C b t ρ h1 | .bl false => .ok (.bl false) h1 | _ => .no := by
  rfl
@[simp] theorem g_or : evG C (.bor a b) t ρ h = (evG C a t ρ h).bind fun x h1 => match x with | .bl false => evG C b t ρ h1 | .bl true => .ok (.bl true) h1 | _ => .no := by
  rfl
@[simp] theorem g_cmp (op : CmpOp) : evG C (.cmp op a b) t ρ h = fin t ((evG C a false ρ h).bind fun x h1 => (evG C b false ρ h1).bind fun y h2 => zbd op x y h2) := by rfl
@[simp] theorem g_ite : evG C (.ite c a b) t ρ h = fin t ((evG C c true ρ h).bind fun x h1 => match x with | .bl true => evG C a false ρ h1 | .bl false => evG C b false ρ h1 | _ => .no) := by
  rfl
@[simp] theorem g_tup (es : List E) : evG C (.tup es) t ρ h = fin t ((evGs C es ρ h).bind fun l h1 => tupO l h1) := by rfl
@[simp] theorem g_lst (es : List E) : evG C (.lst es) t ρ h = fin t ((evGs C es ρ h).bind fun l h1 => alloc l h1) := by rfl
@[simp] theorem g_idx : evG C (.idx a b) t ρ h = fin t ((evG C a false ρ h).bind fun x h1 => (evG C b false ρ h1).bind fun y h2 => zcc x y h2) := by rfl
@[simp] theorem g_slc (lo hi : Option E) : evG C (.slc a lo hi) t ρ h = fin t ((evG C a false ρ h).bind fun x h1 => (evGo C lo ρ h1).bind fun l h2 => (evGo C hi ρ h2).bind fun u h3 => slcop x l u h3) := by rfl
@[simp] theorem g_call (f : Nat) (es : List E) (ds : List PV) : evG C (.call f es ds) t ρ h = fin t ((evGs C es ρ h).bind fun l h1 => C f (l ++ ds) h1) := by rfl
@[simp] theorem g_bi (b : BI) (es : List E) : evG C (.bi b es) t ρ h = fin t ((evGs C es ρ h).bind fun l h1 => biF b l h1) := by rfl
@[simp] theorem g_mth (m : MT) (es : List E) : evG C (.mth m a es) t ρ h = fin t ((evG C a false ρ h).bind fun x h1 => if tyOf h1 x = some m.ty then (evGs C es ρ h1).bind fun l h2 => mtF m x l h2 else .no) := by rfl
theorem g_comp (tg : List Nat) (one : TgK) (k : ITK) (its : List E) (cond : Option E) (own : List Nat) : evG C (.comp a tg one k its cond own) t ρ h = fin t ((evGs C its ρ h).bind fun l h1 =>
      match zcm k l h1 with
      | some (items, kp) => (compLoop kp (fun x => zbo (zbi ρ own) tg one x) (fun ρ1 h2 => (evGc C cond ρ1 h2).calm) (fun ρ1 h2 => (evG C a false ρ1 h2).calm) items [] h1).bind fun l h2 => alloc l h2
      | none => .no) := by rfl
@[simp] theorem gs_nil : evGs C [] ρ h = .ok [] h := by rfl
@[simp] theorem gs_cons (e : E) (es : List E) : evGs C (e :: es) ρ h = (evG C e false ρ h).bind fun x h1 => (evGs C es ρ h1).bind fun l h2 => .ok (x :: l) h2 := by rfl
@[simp] theorem go_none : evGo C none ρ h = .ok none h := by rfl
@[simp] theorem go_some : evGo C (some a) ρ h = (evG C a false ρ h).bind fun x h1 => match x with | .int i => .ok (some i) h1 | _ => .no := by rfl
@[simp] theorem gc_none : evGc C none ρ h = .ok true h := by rfl
@[simp] theorem gc_some : evGc C (some a) ρ h = asB (evG C a true ρ h) := by rfl
@[simp] theorem t_eq : evT C a ρ h = asB (evG C a true ρ h) := rfl
end
@[simp] theorem fin_f (m : R PV) : fin false m = m := rfl
@[simp] theorem sat_fin_t (m : R PV) (Q : PV → PH → Prop) : (fin true m).Sat Q = m.Sat fun v h => ∃ b, truthy h v = some b ∧ Q (.bl b) h := by
  cases m with
  | ok v h =>
    show (ofO ((truthy h v).map .bl) h).Sat Q = _
    rw [sat_ofO, sat_ok]
    cases truthy h v <;> simp
  | ex x h => rfl
  | no => rfl
@[simp] theorem get0 (v : Option PV) (ρ : Env) : Env.get (v :: ρ) 0 = v := by cases v <;> rfl
@[simp] theorem getS (v : Option PV) (ρ : Env) (i : Nat) : Env.get (v :: ρ) (i + 1) = Env.get ρ i := by
  unfold Env.get
  simp
@[simp] theorem tru_bl (h : PH) (b : Bool) : truthy h (.bl b) = some b := rfl
@[simp] theorem tru_int (h : PH) (i : Int) : truthy h (.int i) = some (i != 0) := rfl
@[simp] theorem tru_non (h : PH) : truthy h .non = some false := rfl
@[simp] theorem tru_tup (h : PH) (l : List PV) : truthy h (.tup l) = some (!l.isEmpty) := rfl
theorem tru_ref {h : PH} {n : Nat} {l : List PV} (e : h[n]? = some (.lst l)) : truthy h (.ref n) = some (!l.isEmpty) := by simp only [truthy, e]
section
variable {C : Calls} {ρ : Env} {h : PH} {N : Env → PH → Prop} {T : PV → PH → Prop} {e : E} {s : S} {ss ss2 : List S}
@[simp] theorem x_nil : (exSs C [] ρ h).Sat N T = N ρ h := by simp only [exSs, ssat_nx]
theorem zai : (exSs C (s :: ss) ρ h).Sat N T = (exS C s ρ h).Sat (fun ρ1 h1 => (exSs C ss ρ1 h1).Sat N T) T := by simp only [exSs, ssat_seq]
@[simp] theorem x_one : (exSs C [s] ρ h).Sat N T = (exS C s ρ h).Sat N T := by simp only [zai, x_nil]
@[simp] theorem x_set (i : Nat) : (exS C (.asg (.nm i) e) ρ h).Sat N T = (evG C e false ρ h).Sat fun v h1 => N (ρ.set i (some v)) h1 := by simp only [exS, ssat_st, stTg, ssat_nx]
@[simp] theorem x_tup (is : List Nat) : (exS C (.asg (.tup is) e) ρ h).Sat N T = (evG C e false ρ h).Sat fun v h1 => match v with | .tup l => (∃ ρ', zbx ρ is l = some ρ' ∧ N ρ' h1) | _ => False := by
  simp only [exS, ssat_st]
  congr 1
  funext v h1
  cases v with
  | tup l =>
    simp only [stTg]
    cases zbx ρ is l <;> simp
  | _ => rfl
@[simp] theorem x_unl (is : List Nat) : (exS C (.asg (.unl is) e) ρ h).Sat N T = (evG C e false ρ h).Sat fun v h1 => match v with | .ref n => (∃ l ρ', h1[n]? = some (.lst l) ∧ zbx ρ is l = some ρ' ∧ N ρ' h1) | _ => False := by
  simp only [exS, ssat_st]
  congr 1
  funext v h1
  cases v with
  | ref n =>
    simp only [stTg]
    cases h1[n]? with
    | none => simp
    | some o =>
      cases o with
      | lst l => cases e : zbx ρ is l <;> simp [e]
      | dct l => simp
      | obj c l => simp
  | _ => rfl
@[simp] theorem x_sub (o i : E) : (exS C (.asg (.sub o i) e) ρ h).Sat N T = (evG C e false ρ h).Sat fun v h1 => (evG C o false ρ h1).Sat fun x h2 => (evG C i false ρ h2).Sat fun y h3 => ∃ h4, setop x y v h3 = some h4 ∧ N ρ h4 := by
  simp only [exS, ssat_st, stTg]
  congr 1
  funext v h1
  congr 1
  funext x h2
  congr 1
  funext y h3
  cases setop x y v h3 <;> simp
@[simp] theorem x_if (t : E) : (exS C (.ifs t ss ss2) ρ h).Sat N T = (evG C t true ρ h).Sat fun x h1 => match x with | .bl true => (exSs C ss ρ h1).Sat N T | .bl false => (exSs C ss2 ρ h1).Sat N T | _ => False := by
  simp only [exS, ssat_st, t_eq, sat_asB]
  congr 1
  funext x h1
  cases x with
  | bl k => cases k <;> rfl
  | _ => rfl
@[simp] theorem x_ret : (exS C (.ret e) ρ h).Sat N T = (evG C e false ρ h).Sat T := by simp only [exS, ssat_st, ssat_rt]
@[simp] theorem x_ex : (exS C (.ex e) ρ h).Sat N T = (evG C e false ρ h).Sat fun _ h1 => N ρ h1 := by simp only [exS, ssat_st, ssat_nx]
@[simp] theorem x_aug (i : Nat) (op : Operator) : (exS C (.aug i op e) ρ h).Sat N T = ∃ x, ρ.get i = some x ∧ (evG C e false ρ h).Sat fun y h1 => (iopF op x y h1).Sat fun z h2 => N (ρ.set i (some z)) h2 := by
  simp only [exS]
  cases ρ.get i with
  | none => simp
  | some x => simp
@[simp] theorem x_augs (o i : E) (op : Operator) : (exS C (.augs o i op e) ρ h).Sat N T = (evG C o false ρ h).Sat fun ov h1 => (evG C i false ρ h1).Sat fun iv h2 => (getL ov iv h2).Sat fun x h3 => (evG C e false ρ h3).Sat fun y h4 => (iopF op x y h4).Sat fun z h5 => ∃ h6, setop ov iv z h5 = some h6 ∧ N ρ h6 := by
  simp only [exS, ssat_st]
  congr 1
  funext v h1
  congr 1
  funext x h2
  congr 1
  funext y h3
  congr 1
  funext y h3
  congr 1
  funext z h5
  cases setop v x z h5 <;> simp
end
/-- a def -/
theorem zay {C : Calls} {f : Fn} {vs : List PV} {h : PH} {Q : PV → PH → Prop} (hl : vs.length = f.np) (s : (exSs C f.body (zas f.ns vs) h).Sat (fun _ h => Q .non h) Q) : (runFn C f vs h).Sat Q := by
  unfold runFn
  rw [if_pos hl]
  generalize exSs C f.body (zas f.ns vs) h = m at s
  cases m with
  | nx ρ h => exact s
  | rt v h => exact s
  | bk _ _ => exact s
  | ct _ _ => exact s
  | ex _ _ _ => exact s
  | no => exact s
theorem zam (tbl : Nat → Fn) (k f : Nat) (vs : List PV) (h : PH) : call tbl (k + 1) f vs h = runFn (call tbl k) (tbl f) vs h := rfl
theorem whileN_sat {t : Env → PH → R Bool} {b : Env → PH → RS} {N : Env → PH → Prop} {T : PV → PH → Prop} (I : Nat → Env → PH → Prop)
    (hs : ∀ n ρ h, I n ρ h → (t ρ h).Sat fun c h1 => if c = true then (b ρ h1).Sat (fun ρ' h' => ∃ n', n' < n ∧ I n' ρ' h') T else N ρ h1) : ∀ (n m : Nat) (ρ : Env) (h : PH), n < m → I n ρ h → (whileF t b ρ h).Sat N T
  | n, 0, ρ, h, hm, _ => absurd hm (Nat.not_lt_zero _)
  | n, m + 1, ρ, h, hm, hi => by
    rw [whileF_eq, ssat_st]
    refine (hs n ρ h hi).imp fun c h1 q => ?_
    cases c with
    | false => exact q
    | true =>
      simp only [if_true] at q ⊢
      generalize b ρ h1 = r at q
      cases r with
      | nx ρ' h' =>
        obtain ⟨n', q1, q2⟩ := q
        exact whileN_sat I hs n' m ρ' h' (by omega) q2
      | rt v h' => exact q
      | bk _ _ => exact q.elim
      | ct _ _ => exact q.elim
      | ex _ _ _ => exact q.elim
      | no => exact q.elim
/-- a while, by an invariant with a number that falls -/
theorem x_whl {C : Calls} {e : E} {ss : List S} {ρ : Env} {h : PH} {N : Env → PH → Prop} {T : PV → PH → Prop} (I : Nat → Env → PH → Prop) (n : Nat) (hi : I n ρ h)
    (hs : ∀ n ρ h, I n ρ h → (evG C e true ρ h).Sat fun c h1 => match c with | .bl true => (exSs C ss ρ h1).Sat (fun ρ' h' => ∃ n', n' < n ∧ I n' ρ' h') T | .bl false => N ρ h1 | _ => False) : (exS C (.whl e ss) ρ h).Sat N T := by
  simp only [exS]
  refine whileN_sat I (fun n ρ h hi => ?_) n _ ρ h (Nat.lt_succ_self _) hi
  rw [t_eq, sat_asB]
  refine (hs n ρ h hi).imp fun c h1 q => ?_
  cases c with
  | bl k => cases k <;> simpa using q
  | _ => exact q
theorem for_sat {kp : Keep} {bind : Env → PV → Option Env} {b : Env → PH → RS} {N : Env → PH → Prop} {T : PV → PH → Prop} (I : Nat → Env → PH → Prop) : ∀ (items : List PV) (j : Nat) (ρ : Env) (h : PH), I j ρ h →
    (∀ (i : Nat) (x : PV) ρ h, items[i]? = some x → I (j + i) ρ h → zbn kp h ∧ ∃ ρ1, bind ρ x = some ρ1 ∧ (b ρ1 h).Sat (I (j + i + 1)) T) → (∀ ρ h, I (j + items.length) ρ h → zbn kp h ∧ N ρ h) → (forLoop kp bind b items ρ h).Sat N T
  | [], j, ρ, h, hi, _, hd => by
    obtain ⟨h1, h2⟩ := hd ρ h hi
    unfold forLoop
    rw [if_pos h1]
    exact h2
  | x :: xs, j, ρ, h, hi, hs, hd => by
    obtain ⟨h1, ρ1, h2, h3⟩ := hs 0 x ρ h rfl hi
    unfold forLoop
    rw [if_pos h1, h2]
    show ((b ρ1 h).turn _).Sat N T
    generalize b ρ1 h = r at h3
    have go : ∀ ρ' h', I (j + 1) ρ' h' → (forLoop kp bind b xs ρ' h').Sat N T := fun ρ' h' hi' => for_sat I xs (j + 1) ρ' h' hi' (fun i y ρ h e q => by
      have := hs (i + 1) y ρ h (by simpa using e)
      rw [show j + (i + 1) = j + 1 + i by omega] at this
      exact this q) (fun ρ h q => hd ρ h (by rw [List.length_cons, show j + (xs.length + 1) = j + 1 + xs.length by omega]; exact q))
    cases r with
    | nx ρ' h' => exact go ρ' h' h3
    | rt v h' => exact h3
    | bk _ _ => exact h3.elim
    | ct _ _ => exact h3.elim
    | ex _ _ _ => exact h3.elim
    | no => exact h3.elim
theorem x_for {C : Calls} {tg : List Nat} {one : TgK} {k : ITK} {its : List E} {ss : List S} {ρ : Env} {h : PH} {N : Env → PH → Prop} {T : PV → PH → Prop}
    (s : (evGs C its ρ h).Sat fun l h1 => ∃ items kp, zcm k l h1 = some (items, kp) ∧ ∃ I : Nat → Env → PH → Prop, I 0 ρ h1 ∧
      (∀ (i : Nat) (x : PV) ρ h, items[i]? = some x → I i ρ h → zbn kp h ∧ ∃ ρ1, zbo ρ tg one x = some ρ1 ∧ (exSs C ss ρ1 h).Sat (I (i + 1)) T) ∧ (∀ ρ h, I items.length ρ h → zbn kp h ∧ N ρ h)) : (exS C (.fr tg one k its ss) ρ h).Sat N T := by
  simp only [exS, ssat_st]
  refine s.imp fun l h1 ⟨items, kp, e, I, h0, hs, hd⟩ => ?_
  rw [e]
  refine for_sat I items 0 ρ h1 h0 (fun i x ρ h e q => ?_) fun ρ h q => hd ρ h (by simpa using q)
  have := hs i x ρ h e (by simpa using q)
  simpa using this
theorem comp_sat {kp : Keep} {bind : PV → Option Env} {t : Env → PH → R Bool} {e : Env → PH → R PV} {Q : List PV → PH → Prop} (I : Nat → List PV → PH → Prop) : ∀ (items : List PV) (j : Nat) (acc : List PV) (h : PH), I j acc h →
    (∀ (i : Nat) (x : PV) acc h, items[i]? = some x → I (j + i) acc h → zbn kp h ∧ ∃ ρ1, bind x = some ρ1 ∧ (t ρ1 h).Sat fun b h1 => if b = true then (e ρ1 h1).Sat fun v h2 => za3 (acc.length + 1) = true ∧ I (j + i + 1) (acc ++ [v]) h2 else I (j + i + 1) acc h1) →
    (∀ acc h, I (j + items.length) acc h → zbn kp h ∧ Q acc h) → (compLoop kp bind t e items acc h).Sat Q
  | [], j, acc, h, hi, _, hd => by
    obtain ⟨h1, h2⟩ := hd acc h hi
    unfold compLoop
    rw [if_pos h1]
    exact h2
  | x :: xs, j, acc, h, hi, hs, hd => by
    obtain ⟨h1, ρ1, h2, h3⟩ := hs 0 x acc h rfl hi
    unfold compLoop
    rw [if_pos h1, h2]
    show ((t ρ1 h).bind _).Sat Q
    rw [sat_bind]
    have go : ∀ acc' h', I (j + 1) acc' h' → (compLoop kp bind t e xs acc' h').Sat Q := fun acc' h' hi' => comp_sat I xs (j + 1) acc' h' hi' (fun i y ρ h e q => by
      have := hs (i + 1) y ρ h (by simpa using e)
      rw [show j + (i + 1) = j + 1 + i by omega] at this
      exact this q) (fun ρ h q => hd ρ h (by rw [List.length_cons, show j + (xs.length + 1) = j + 1 + xs.length by omega]; exact q))
    refine h3.imp fun b h4 q => ?_
    cases b with
    | false => exact go acc h4 (by simpa using q)
    | true =>
      simp only [if_true] at q ⊢
      rw [sat_bind]
      refine q.imp fun v h5 ⟨q1, q2⟩ => ?_
      rw [if_pos q1]
      exact go _ h5 q2
/-- a comprehension -/
theorem v_comp {C : Calls} {tg : List Nat} {one : TgK} {k : ITK} {its : List E} {cond : Option E} {own : List Nat} {a : E} {ρ : Env} {h : PH} {Q : PV → PH → Prop}
    (s : (evGs C its ρ h).Sat fun l h1 => ∃ items kp, zcm k l h1 = some (items, kp) ∧ ∃ I : Nat → List PV → PH → Prop, I 0 [] h1 ∧
      (∀ (i : Nat) (x : PV) acc h, items[i]? = some x → I i acc h → zbn kp h ∧ ∃ ρ1, zbo (zbi ρ own) tg one x = some ρ1 ∧ (evGc C cond ρ1 h).Sat fun b h1 => if b = true then (evG C a false ρ1 h1).Sat fun v h2 => za3 (acc.length + 1) = true ∧ I (i + 1) (acc ++ [v]) h2 else I (i + 1) acc h1) ∧
      (∀ acc h, I items.length acc h → zbn kp h ∧ za3 acc.length = true ∧ Q (.ref h.length) (h ++ [.lst acc]))) : (evG C (.comp a tg one k its cond own) false ρ h).Sat Q := by
  rw [g_comp, fin_f, sat_bind]
  refine s.imp fun l h1 ⟨items, kp, e, I, h0, hs, hd⟩ => ?_
  rw [e]
  show ((compLoop kp _ _ _ items [] h1).bind _).Sat Q
  rw [sat_bind]
  refine comp_sat I items 0 [] h1 h0 (fun i x acc h e q => ?_) fun acc h q => ?_
  · obtain ⟨q1, ρ1, q2, q3⟩ := hs i x acc h e (by simpa using q)
    refine ⟨q1, ρ1, q2, ?_⟩
    rw [sat_calm]
    refine q3.imp fun b h2 q4 => ?_
    cases b with
    | false => simpa using q4
    | true => simpa using q4
  · obtain ⟨q1, q2, q3⟩ := hd acc h (by simpa using q)
    refine ⟨q1, ?_⟩
    unfold alloc
    rw [if_pos q2]
    exact q3
/-- .. where what is walked is known -/
theorem v_compE {C : Calls} {tg : List Nat} {one : TgK} {k : ITK} {its : List E} {cond : Option E} {own : List Nat} {a : E} {ρ : Env} {h h1 : PH} {Q : PV → PH → Prop} {l items : List PV} {kp : Keep} (e1 : evGs C its ρ h = .ok l h1) (e2 : zcm k l h1 = some (items, kp)) (I : Nat → List PV → PH → Prop) (h0 : I 0 [] h1)
    (hs : ∀ (i : Nat) (x : PV) acc h, items[i]? = some x → I i acc h → zbn kp h ∧ ∃ ρ1, zbo (zbi ρ own) tg one x = some ρ1 ∧ (evGc C cond ρ1 h).Sat fun b h1 => if b = true then (evG C a false ρ1 h1).Sat fun v h2 => za3 (acc.length + 1) = true ∧ I (i + 1) (acc ++ [v]) h2 else I (i + 1) acc h1)
    (hd : ∀ acc h, I items.length acc h → zbn kp h ∧ za3 acc.length = true ∧ Q (.ref h.length) (h ++ [.lst acc])) : (evG C (.comp a tg one k its cond own) false ρ h).Sat Q :=
  v_comp (by rw [e1]; exact ⟨items, kp, e2, I, h0, hs, hd⟩)
theorem x_forE {C : Calls} {tg : List Nat} {one : TgK} {k : ITK} {its : List E} {ss : List S} {ρ : Env} {h h1 : PH} {N : Env → PH → Prop} {T : PV → PH → Prop} {l items : List PV} {kp : Keep} (e1 : evGs C its ρ h = .ok l h1) (e2 : zcm k l h1 = some (items, kp)) (I : Nat → Env → PH → Prop) (h0 : I 0 ρ h1)
    (hs : ∀ (i : Nat) (x : PV) ρ h, items[i]? = some x → I i ρ h → zbn kp h ∧ ∃ ρ1, zbo ρ tg one x = some ρ1 ∧ (exSs C ss ρ1 h).Sat (I (i + 1)) T) (hd : ∀ ρ h, I items.length ρ h → zbn kp h ∧ N ρ h) : (exS C (.fr tg one k its ss) ρ h).Sat N T :=
  x_for (by rw [e1]; exact ⟨items, kp, e2, I, h0, hs, hd⟩)
section
variable {h : PH} {i j : Int} {α : Type}
@[simp] theorem sat_ite (c : Prop) [Decidable c] (m n : R α) (Q : α → PH → Prop) : (if c then m else n).Sat Q = if c then m.Sat Q else n.Sat Q := by split <;> rfl
@[simp] theorem b_add : binop .Add (.int i) (.int j) h = .ok (.int (i + j)) h := rfl
@[simp] theorem b_sub : binop .Sub (.int i) (.int j) h = .ok (.int (i - j)) h := rfl
theorem b_mul (e : zc6 i j = true) : binop .Mult (.int i) (.int j) h = .ok (.int (i * j)) h := by
  show (if zc6 i j then _ else _) = _
  rw [if_pos e]
theorem b_fdiv (e : divOk j = true) : binop .FloorDiv (.int i) (.int j) h = .ok (.int (i.fdiv j)) h := by
  show (if divOk j then _ else _) = _
  rw [if_pos e]
theorem b_mod (e : j ≠ 0) : binop .Mod (.int i) (.int j) h = .ok (.int (i.fmod j)) h := by
  show (if j = 0 then _ else _) = _
  rw [if_neg e]
theorem b_pow (e : powOk i j = true) : binop .Pow (.int i) (.int j) h = .ok (.int (i ^ j.toNat)) h := by
  show (if powOk i j then _ else _) = _
  rw [if_pos e]
@[simp] theorem c_lt : zbd .Lt (.int i) (.int j) h = .ok (.bl (decide (i < j))) h := rfl
@[simp] theorem c_le : zbd .LtE (.int i) (.int j) h = .ok (.bl (decide (i ≤ j))) h := rfl
@[simp] theorem c_gt : zbd .Gt (.int i) (.int j) h = .ok (.bl (decide (j < i))) h := rfl
@[simp] theorem c_ge : zbd .GtE (.int i) (.int j) h = .ok (.bl (decide (j ≤ i))) h := rfl
@[simp] theorem c_eqI : zbd .Eq (.int i) (.int j) h = .ok (.bl (decide (i = j))) h := by
  show ofO ((eqP h (.int i) (.int j)).map PV.bl) h = _
  have : eqP h (.int i) (.int j) = some (i == j) := by simp [eqP, pd, PyData.eqv]
  rw [this]
  show R.ok (PV.bl (i == j)) h = _
  rw [show (i == j) = decide (i = j) from by rw [Bool.eq_iff_iff]; simp]
@[simp] theorem c_neI : zbd .NotEq (.int i) (.int j) h = .ok (.bl (!decide (i = j))) h := by
  show ofO ((eqP h (.int i) (.int j)).map fun b => PV.bl (!b)) h = _
  have : eqP h (.int i) (.int j) = some (i == j) := by simp [eqP, pd, PyData.eqv]
  rw [this]
  show R.ok (PV.bl (!(i == j))) h = _
  rw [show (i == j) = decide (i = j) from by rw [Bool.eq_iff_iff]; simp]
@[simp] theorem c_eqB (a b : Bool) : zbd .Eq (.bl a) (.bl b) h = .ok (.bl (decide (a = b))) h := by cases a <;> cases b <;> rfl
@[simp] theorem c_neB (a b : Bool) : zbd .NotEq (.bl a) (.bl b) h = .ok (.bl (!decide (a = b))) h := by cases a <;> cases b <;> rfl
@[simp] theorem c_eqS (a b : Str) : zbd .Eq (.str a) (.str b) h = .ok (.bl (decide (a = b))) h := rfl
@[simp] theorem c_isN (a : PV) : zbd .Is a .non h = .ok (.bl (isNonP a)) h := by cases a <;> rfl
@[simp] theorem c_isnN (a : PV) : zbd .IsNot a .non h = .ok (.bl (!isNonP a)) h := by cases a <;> rfl
@[simp] theorem io_add : iopF .Add (.int i) (.int j) h = .ok (.int (i + j)) h := rfl
@[simp] theorem tupO_small (l : List PV) (e : l.length ≤ 1000000) : tupO l h = .ok (.tup l) h := by
  unfold tupO
  rw [if_pos (show za3 l.length = true from decide_eq_true e)]
theorem zaw (l : List PV) (e : l.length ≤ 1000000) : alloc l h = .ok (.ref h.length) (h ++ [.lst l]) := by
  unfold alloc
  rw [if_pos (show za3 l.length = true from decide_eq_true e)]
theorem idx_ref {n : Nat} {l : List PV} {v : PV} (e : h[n]? = some (.lst l)) (e2 : L2.atI l i = some v) : zcc (.ref n) (.int i) h = .ok v h := by
  unfold zcc
  simp only [zbw, e, e2, ofO_some]
theorem idx_tup {l : List PV} {v : PV} (e2 : L2.atI l i = some v) : zcc (.tup l) (.int i) h = .ok v h := by
  unfold zcc
  simp only [zbw, e2, ofO_some]
theorem at_nat {β : Type} {l : List β} {n : Nat} {v : β} (e : l[n]? = some v) : L2.atI l (n : Int) = some v := by
  unfold L2.atI L2.ixN
  have := (List.getElem?_eq_some_iff.mp e).1
  rw [if_pos (by omega), if_pos (by omega)]
  simpa using e
theorem at_pos {β : Type} {l : List β} {i : Int} {v : β} (h0 : 0 ≤ i) (e : l[i.toNat]? = some v) : L2.atI l i = some v := by
  have := at_nat (n := i.toNat) e
  rwa [Int.toNat_of_nonneg h0] at this
end
theorem fmod_pos {a b : Int} (h : 0 < b) : a.fmod b = a % b := Int.fmod_eq_emod_of_nonneg a (by omega)
theorem fdiv_pos {a b : Int} (h : 0 < b) : a.fdiv b = a / b := Int.fdiv_eq_ediv_of_nonneg a (by omega)
theorem log2_small {x : Int} {n : Nat} (h0 : 0 < n) (h : x.natAbs < 2 ^ n) : x.natAbs.log2 < n := PySem.Flt.log2_lt_of h0 h
theorem mul_ok {i j : Int} {a b : Nat} (ha : i.natAbs < 2 ^ a) (hb : j.natAbs < 2 ^ b) (h0 : 0 < a) (h1 : 0 < b) (h : a + b ≤ 1000000) : zc6 i j = true := by
  have x := log2_small h0 ha
  have y := log2_small h1 hb
  exact decide_eq_true (by omega)
theorem div_ok {j : Int} {b : Nat} (hj : j ≠ 0) (hb : j.natAbs < 2 ^ b) (h1 : 0 < b) (h : b ≤ 9000) : divOk j = true := by
  have y := log2_small h1 hb
  unfold divOk
  rw [decide_eq_true hj, decide_eq_true (show j.natAbs.log2 < 9000 by omega)]
  rfl
theorem zaq {n : Nat} (h : n ≤ 1000000) : za3 n = true := decide_eq_true h
end Sb
namespace Sb
open PySem
def F_common : Fn := ⟨2, 2, [.asg (.tup [0, 1]) (.tup [(.bi .abs [(.var 0)]), (.bi .abs [(.var 1)])]),
  .whl (.cmp .Gt (.var 1) (.lit (.int 0))) [.asg (.tup [0, 1]) (.tup [(.var 1), (.bin .Mod (.var 0) (.var 1))])],
  .ret (.var 0)]⟩
def F_law_start : Fn := ⟨1, 3, [.asg (.nm 1) (.comp (.var 2) [2] .one .seq [(.var 0)] (some (.cmp .GtE (.var 2) (.bin .Pow (.lit (.int 10)) (.lit (.int 18))))) [2]),
  .ret (.lst [(.var 1), (.lit (.int 0)), (.comp (.bin .Mod (.var 2) (.lit (.int 2147483587))) [2] .one .seq [(.var 0)] none [2]), (.lit (.int 0))])]⟩
def F_law_mix : Fn := ⟨1, 4, [.augs (.var 0) (.lit (.int 3)) .Add (.lit (.int 1)),
  .asg (.nm 1) (.idx (.var 0) (.lit (.int 3))),
  .asg (.nm 2) (.lit (.int 11)),
  .ifs (.idx (.var 0) (.lit (.int 2))) [.asg (.nm 2) (.idx (.idx (.var 0) (.lit (.int 2))) (.bin .Mod (.var 1) (.bi .len [(.idx (.var 0) (.lit (.int 2)))])))] [],
  .asg (.nm 3) (.bin .Mod (.bin .Pow (.bin .Add (.bin .Add (.bin .Add (.var 2) (.bin .Mult (.bin .Mult (.lit (.int 769)) (.var 1)) (.var 1))) (.bin .Mult (.lit (.int 52361)) (.var 1))) (.lit (.int 23))) (.lit (.int 5))) (.lit (.int 2147483647))),
  .ret (.bin .Mod (.bin .Add (.bin .Mult (.var 3) (.lit (.int 48271))) (.bin .Mult (.lit (.int 6007)) (.var 1))) (.lit (.int 1000000007)))]⟩
def F_law_draw : Fn := ⟨2, 4, [.ifs (.band (.cmp .Eq (.idx (.var 0) (.lit (.int 1))) (.lit (.int 0))) (.idx (.var 0) (.lit (.int 0)))) [.asg (.sub (.var 0) (.lit (.int 1))) (.mth .popAt (.idx (.var 0) (.lit (.int 0))) [(.lit (.int 0))])] [],
  .ifs (.cmp .Gt (.idx (.var 0) (.lit (.int 1))) (.lit (.int 0))) [.asg (.nm 2) (.bin .Mod (.idx (.var 0) (.lit (.int 1))) (.var 1)),
  .asg (.sub (.var 0) (.lit (.int 1))) (.bin .FloorDiv (.idx (.var 0) (.lit (.int 1))) (.var 1)),
  .ret (.var 2)] [],
  .asg (.nm 2) (.lit (.int 0)),
  .asg (.nm 3) (.lit (.int 1)),
  .whl (.cmp .Lt (.var 3) (.var 1)) [.asg (.nm 2) (.bin .Add (.bin .Mult (.var 2) (.lit (.int 1000000007))) (.call 5 [(.var 0)] [])),
  .asg (.nm 3) (.bin .Mult (.var 3) (.lit (.int 1000000007)))],
  .ret (.bin .Mod (.var 2) (.var 1))]⟩
def F_law_same : Fn := ⟨2, 4, [.ifs (.bi .isinst [(.var 1), (.tup [(.lit (.ty .tuple)), (.lit (.ty .list))])]) [.ifs (.cmp .NotEq (.bi .isinst [(.var 0), (.lit (.ty .tuple))]) (.bi .isinst [(.var 1), (.lit (.ty .tuple))])) [.ret (.lit (.bl false))] [],
  .ifs (.bor (.cmp .NotEq (.bi .isinst [(.var 0), (.lit (.ty .list))]) (.bi .isinst [(.var 1), (.lit (.ty .list))])) (.cmp .NotEq (.bi .len [(.var 0)]) (.bi .len [(.var 1)]))) [.ret (.lit (.bl false))] [],
  .ret (.bi .all [(.comp (.call 7 [(.var 2), (.var 3)] []) [2, 3] .tup .zip [(.var 0), (.var 1)] none [2, 3])])] [],
  .ifs (.cmp .Is (.var 1) (.lit .non)) [.ret (.cmp .Is (.var 0) (.lit .non))] [],
  .ifs (.bi .isinst [(.var 1), (.lit (.ty .str))]) [.ret (.band (.bi .isinst [(.var 0), (.lit (.ty .str))]) (.cmp .Eq (.var 0) (.var 1)))] [],
  .ret (.band (.bi .isinst [(.var 0), (.lit (.ty .int))]) (.band (.cmp .Eq (.bi .isinst [(.var 0), (.lit (.ty .bool))]) (.bi .isinst [(.var 1), (.lit (.ty .bool))])) (.cmp .Eq (.var 0) (.var 1))))]⟩
def F_law_lowest : Fn := ⟨2, 4, [.asg (.nm 2) (.bi .abs [(.var 0)]),
  .asg (.nm 3) (.bi .abs [(.var 1)]),
  .whl (.cmp .Gt (.var 3) (.lit (.int 0))) [.asg (.tup [2, 3]) (.tup [(.var 3), (.bin .Mod (.var 2) (.var 3))])],
  .ifs (.cmp .Lt (.var 1) (.lit (.int 0))) [.asg (.nm 2) (.bin .Sub (.lit (.int 0)) (.var 2))] [],
  .ret (.tup [(.bin .FloorDiv (.var 0) (.var 2)), (.bin .FloorDiv (.var 1) (.var 2))])]⟩
def F_fraction_of : Fn := ⟨2, 3, [.ifs (.cmp .Eq (.var 1) (.lit (.int 0))) [.raise "NoBottom" ["top"] [(.var 0)]] [],
  .asg (.nm 2) (.call 0 [(.var 0), (.var 1)] []),
  .ifs (.cmp .Lt (.var 1) (.lit (.int 0))) [.asg (.nm 2) (.neg (.var 2))] [],
  .ret (.tup [(.bin .FloorDiv (.var 0) (.var 2)), (.bin .FloorDiv (.var 1) (.var 2))])]⟩
def F_plus_of : Fn := ⟨2, 2, [.ret (.call 15 [(.bin .Add (.bin .Mult (.idx (.var 0) (.lit (.int 0))) (.idx (.var 1) (.lit (.int 1)))) (.bin .Mult (.idx (.var 1) (.lit (.int 0))) (.idx (.var 0) (.lit (.int 1))))), (.bin .Mult (.idx (.var 0) (.lit (.int 1))) (.idx (.var 1) (.lit (.int 1))))] [])]⟩
def F_less_of : Fn := ⟨2, 2, [.ret (.call 15 [(.bin .Sub (.bin .Mult (.idx (.var 0) (.lit (.int 0))) (.idx (.var 1) (.lit (.int 1)))) (.bin .Mult (.idx (.var 1) (.lit (.int 0))) (.idx (.var 0) (.lit (.int 1))))), (.bin .Mult (.idx (.var 0) (.lit (.int 1))) (.idx (.var 1) (.lit (.int 1))))] [])]⟩
def F_times_of : Fn := ⟨2, 2, [.ret (.call 15 [(.bin .Mult (.idx (.var 0) (.lit (.int 0))) (.idx (.var 1) (.lit (.int 0)))), (.bin .Mult (.idx (.var 0) (.lit (.int 1))) (.idx (.var 1) (.lit (.int 1))))] [])]⟩
def F_over_of : Fn := ⟨2, 2, [.ifs (.cmp .Eq (.idx (.var 1) (.lit (.int 0))) (.lit (.int 0))) [.raise "NoBottom" ["top"] [(.idx (.var 0) (.lit (.int 0)))]] [],
  .ret (.call 15 [(.bin .Mult (.idx (.var 0) (.lit (.int 0))) (.idx (.var 1) (.lit (.int 1)))), (.bin .Mult (.idx (.var 0) (.lit (.int 1))) (.idx (.var 1) (.lit (.int 0))))] [])]⟩
def F_stretch_by : Fn := ⟨2, 2, [.ret (.call 18 [(.idx (.var 0) (.lit (.int 0))), (.var 1)] [])]⟩
def F_read_by : Fn := ⟨2, 2, [.ret (.call 16 [(.call 20 [(.var 0), (.var 1)] []), (.idx (.var 0) (.lit (.int 1)))] [])]⟩
def F_move_then : Fn := ⟨2, 2, [.ret (.tup [(.call 18 [(.idx (.var 1) (.lit (.int 0))), (.idx (.var 0) (.lit (.int 0)))] []), (.call 21 [(.var 1), (.idx (.var 0) (.lit (.int 1)))] [])])]⟩
def F_move_back : Fn := ⟨1, 3, [.asg (.tup [1, 2]) (.var 0),
  .ret (.tup [(.call 19 [(.tup [(.lit (.int 1)), (.lit (.int 1))]), (.var 1)] []), (.call 19 [(.call 17 [(.lit (.tup [(.int 0), (.int 1)])), (.var 2)] []), (.var 1)] [])])]⟩
def F_law_plus : Fn := ⟨2, 2, [.ret (.call 9 [(.bin .Add (.bin .Mult (.idx (.var 0) (.lit (.int 0))) (.idx (.var 1) (.lit (.int 1)))) (.bin .Mult (.idx (.var 1) (.lit (.int 0))) (.idx (.var 0) (.lit (.int 1))))), (.bin .Mult (.idx (.var 0) (.lit (.int 1))) (.idx (.var 1) (.lit (.int 1))))] [])]⟩
def F_law_times : Fn := ⟨2, 2, [.ret (.call 9 [(.bin .Mult (.idx (.var 0) (.lit (.int 0))) (.idx (.var 1) (.lit (.int 0)))), (.bin .Mult (.idx (.var 0) (.lit (.int 1))) (.idx (.var 1) (.lit (.int 1))))] [])]⟩
def F_law_led : Fn := ⟨2, 2, [.ret (.call 24 [(.call 25 [(.idx (.var 0) (.lit (.int 0))), (.var 1)] []), (.idx (.var 0) (.lit (.int 1)))] [])]⟩
def F_law_then : Fn := ⟨2, 2, [.ret (.tup [(.call 25 [(.idx (.var 1) (.lit (.int 0))), (.idx (.var 0) (.lit (.int 0)))] []), (.call 26 [(.var 1), (.idx (.var 0) (.lit (.int 1)))] [])])]⟩
def F_law_back : Fn := ⟨1, 2, [.asg (.nm 1) (.call 9 [(.idx (.idx (.var 0) (.lit (.int 0))) (.lit (.int 1))), (.idx (.idx (.var 0) (.lit (.int 0))) (.lit (.int 0)))] []),
  .ret (.tup [(.var 1), (.call 25 [(.var 1), (.tup [(.bin .Sub (.lit (.int 0)) (.idx (.idx (.var 0) (.lit (.int 1))) (.lit (.int 0)))), (.idx (.idx (.var 0) (.lit (.int 1))) (.lit (.int 1)))])] [])])]⟩
def F_in_order : Fn := ⟨1, 1, [.ret (.srt (.var 0))]⟩
def F_order_of : Fn := ⟨1, 2, [.ret (.comp (.idx (.var 1) (.lit (.int 0))) [1] .one .seq [(.call 32 [(.var 0)] [])] none [1])]⟩
def F_law_names : Fn := ⟨2, 7, [.asg (.nm 2) (.lit (.str "abcdefghijklmnopqrstuvxyz")),
  .asg (.nm 3) (.lst []),
  .fr [4] .one .range [(.var 1)] [.asg (.nm 5) (.mth .join (.lit (.str "")) [(.comp (.idx (.lit (.str "abz")) (.call 6 [(.var 0), (.lit (.int 3))] [])) [6] .one .range [(.bin .Add (.lit (.int 1)) (.call 6 [(.var 0), (.lit (.int 3))] []))] none [6])]),
  .ifs (.cmp .Eq (.call 6 [(.var 0), (.lit (.int 8))] []) (.lit (.int 1))) [.asg (.nm 5) (.mth .join (.lit (.str "")) [(.comp (.idx (.var 2) (.call 6 [(.var 0), (.lit (.int 25))] [])) [6] .one .range [(.bin .Add (.lit (.int 1)) (.call 6 [(.var 0), (.lit (.int 8))] []))] none [6])])] [],
  .ifs (.cmp .In (.var 5) (.var 3)) [.asg (.nm 5) (.bin .Add (.bin .Add (.lit (.str "w")) (.idx (.var 2) (.bin .FloorDiv (.var 4) (.lit (.int 25))))) (.idx (.var 2) (.bin .Mod (.var 4) (.lit (.int 25)))))] [],
  .ex (.mth .append (.var 3) [(.var 5)])],
  .ret (.var 3)]⟩
def F_law_world : Fn := ⟨2, 8, [.asg (.nm 2) (.idx (.lst [(.lit (.int 3)), (.lit (.int 9)), (.lit (.int 999))]) (.call 6 [(.var 0), (.lit (.int 3))] [])),
  .asg (.nm 3) (.dct []),
  .fr [4] .one .seq [(.var 1)] [.asg (.nm 5) (.bin .Sub (.lit (.int 1)) (.bin .Mult (.lit (.int 2)) (.call 6 [(.var 0), (.lit (.int 2))] []))),
  .asg (.nm 6) (.call 9 [(.bin .Mult (.var 5) (.bin .Add (.lit (.int 1)) (.call 6 [(.var 0), (.var 2)] []))), (.bin .Add (.lit (.int 1)) (.call 6 [(.var 0), (.bi .min2 [(.var 2), (.lit (.int 99))])] []))] []),
  .asg (.nm 7) (.call 9 [(.bin .Sub (.call 6 [(.var 0), (.bin .Add (.bin .Mult (.lit (.int 2)) (.var 2)) (.lit (.int 1)))] []) (.var 2)), (.bin .Add (.lit (.int 1)) (.call 6 [(.var 0), (.bi .min2 [(.var 2), (.lit (.int 99))])] []))] []),
  .asg (.sub (.var 3) (.var 4)) (.tup [(.var 6), (.var 7)])],
  .ret (.var 3)]⟩
def F_law_tellings : Fn := ⟨3, 13, [.asg (.nm 3) (.lst [(.call 35 [(.var 0), (.var 1)] []), (.call 35 [(.var 0), (.var 1)] [])]),
  .asg (.nm 4) (.idx (.lst [(.lit (.int 1)), (.lit (.int 2)), (.lit (.int 4)), (.bin .Pow (.lit (.int 10)) (.lit (.int 11)))]) (.call 6 [(.var 0), (.lit (.int 4))] [])),
  .asg (.nm 5) (.lst []),
  .fr [6] .one .seq [(.call 34 [(.var 0), (.var 2)] [])] [.asg (.nm 7) (.idx (.var 1) (.call 6 [(.var 0), (.bi .len [(.var 1)])] [])),
  .asg (.nm 8) (.idx (.var 1) (.call 6 [(.var 0), (.bi .len [(.var 1)])] [])),
  .asg (.nm 9) (.call 6 [(.var 0), (.lit (.int 8))] []),
  .asg (.nm 10) (.idx (.var 3) (.bi .int1 [(.cmp .Eq (.var 9) (.lit (.int 5)))])),
  .asg (.tup [11, 12]) (.call 27 [(.call 28 [(.idx (.var 10) (.var 7))] []), (.idx (.var 10) (.var 8))] []),
  .ifs (.cmp .Eq (.var 9) (.lit (.int 6))) [.asg (.nm 12) (.call 24 [(.var 12), (.tup [(.bin .Add (.lit (.int 1)) (.call 6 [(.var 0), (.lit (.int 9))] [])), (.lit (.int 1))])] [])] [],
  .ifs (.cmp .Eq (.var 9) (.lit (.int 7))) [.asg (.nm 11) (.tup [(.bin .Sub (.lit (.int 0)) (.idx (.var 11) (.lit (.int 0)))), (.idx (.var 11) (.lit (.int 1)))])] [],
  .ex (.mth .append (.var 5) [(.tup [(.var 6), (.var 7), (.var 8), (.tup [(.var 11), (.var 12)]), (.call 6 [(.var 0), (.var 4)] [])])])],
  .ret (.var 5)]⟩
def F_tie_rows : Fn := ⟨1, 8, [.asg (.nm 1) (.dct []),
  .asg (.nm 2) (.lst []),
  .fr [3] .one .seq [(.call 32 [(.var 0)] [])] [.asg (.nm 4) (.mth .setd (.var 1) [(.idx (.var 3) (.lit (.int 1))), (.idx (.var 3) (.lit (.int 1)))]),
  .asg (.nm 5) (.mth .setd (.var 1) [(.idx (.var 3) (.lit (.int 2))), (.idx (.var 3) (.lit (.int 2)))]),
  .ifs (.cmp .NotEq (.var 4) (.var 5)) [.asg (.nm 1) (.remark 1 4 5),
  .ex (.mth .append (.var 2) [(.var 3)])] []],
  .ret (.var 2)]⟩
def F_steps_from : Fn := ⟨2, 7, [.asg (.nm 2) (.lst []),
  .fr [3, 4, 5, 6] .star .seq [(.var 0)] [.ifs (.cmp .Eq (.var 4) (.var 1)) [.ex (.mth .append (.var 2) [(.tup [(.tup [(.var 3), (.lit (.bl true))]), (.var 5)])])] [],
  .ifs (.cmp .Eq (.var 5) (.var 1)) [.ex (.mth .append (.var 2) [(.tup [(.tup [(.var 3), (.lit (.bl false))]), (.var 4)])])] []],
  .ret (.var 2)]⟩
def F_roads_among : Fn := ⟨2, 7, [.asg (.nm 2) (.dct [(.var 1), (.lst [])]),
  .asg (.nm 3) (.lst [(.var 1)]),
  .whl (.cmp .Gt (.bi .len [(.var 3)]) (.lit (.int 0))) [.asg (.nm 4) (.mth .popAt (.var 3) [(.lit (.int 0))]),
  .fr [5, 6] .tup .seq [(.call 40 [(.var 0), (.var 4)] [])] [.ifs (.cmp .NotIn (.var 6) (.var 2)) [.asg (.sub (.var 2) (.var 6)) (.bin .Add (.idx (.var 2) (.var 4)) (.lst [(.var 5)])),
  .ex (.mth .append (.var 3) [(.var 6)])] []]],
  .ret (.var 2)]⟩
def F_road_among : Fn := ⟨3, 3, [.ret (.mth .get1 (.call 41 [(.var 0), (.var 1)] []) [(.var 2)])]⟩
def F_road_of : Fn := ⟨3, 4, [.asg (.nm 3) (.call 42 [(.call 39 [(.var 0)] []), (.var 1), (.var 2)] []),
  .ifs (.cmp .Is (.var 3) (.lit .non)) [.raise "NotJoined" ["end", "start"] [(.var 1), (.var 2)]] [],
  .ret (.var 3)]⟩
def F_chain_move : Fn := ⟨2, 7, [.asg (.nm 2) (.dcomp (.idx (.var 6) (.lit (.int 0))) (.idx (.var 6) (.lit (.int 3))) [6] .one .seq [(.var 0)] none [6]),
  .asg (.nm 3) (.lit (.tup [(.tup [(.int 1), (.int 1)]), (.tup [(.int 0), (.int 1)])])),
  .fr [4, 5] .tup .seq [(.var 1)] [.asg (.nm 3) (.call 22 [(.var 3), (.ite (.var 5) (.idx (.var 2) (.var 4)) (.call 23 [(.idx (.var 2) (.var 4))] []))] [])],
  .ret (.var 3)]⟩
def F_move_of : Fn := ⟨3, 3, [.ret (.call 44 [(.var 0), (.call 43 [(.var 0), (.var 1), (.var 2)] [])] [])]⟩
def F_bars_of : Fn := ⟨1, 7, [.asg (.nm 1) (.call 39 [(.var 0)] []),
  .asg (.nm 2) (.firsts 1),
  .asg (.nm 3) (.comp (.var 5) [5] .one .seq [(.call 32 [(.var 0)] [])] (some (.cmp .NotIn (.idx (.var 5) (.lit (.int 0))) (.var 2))) [5]),
  .ret (.dcomp (.idx (.var 6) (.lit (.int 0))) (.call 42 [(.var 1), (.idx (.var 6) (.lit (.int 1))), (.idx (.var 6) (.lit (.int 2)))] []) [6] .one .seq [(.var 3)] none [6])]⟩
def F_words_of : Fn := ⟨1, 7, [.asg (.nm 1) (.call 46 [(.var 0)] []),
  .asg (.nm 2) (.lst []),
  .fr [3] .one .seq [(.call 32 [(.var 0)] [])] [.asg (.tup [4, 5]) (.tup [(.idx (.var 3) (.lit (.int 0))), (.idx (.var 3) (.lit (.int 3)))]),
  .asg (.nm 6) (.lit (.str "tie")),
  .ifs (.cmp .In (.var 4) (.var 1)) [.asg (.nm 6) (.ite (.cmp .Eq (.call 44 [(.var 0), (.idx (.var 1) (.var 4))] []) (.var 5)) (.lit (.str "fits")) (.lit (.str "aside")))] [],
  .ex (.mth .append (.var 2) [(.tup [(.var 4), (.var 6)])])],
  .ret (.var 2)]⟩
def F_named : Fn := ⟨2, 3, [.fr [2] .one .seq [(.var 0)] [.ifs (.cmp .Eq (.idx (.var 2) (.lit (.int 0))) (.var 1)) [.ret (.var 2)] []],
  .raise "NoTelling" ["name"] [(.var 1)]]⟩
def F_ties_of : Fn := ⟨1, 2, [.ret (.comp (.idx (.var 1) (.lit (.int 0))) [1] .one .seq [(.call 39 [(.var 0)] [])] none [1])]⟩
def F_law_alone : Fn := ⟨1, 2, [.asg (.nm 1) (.lst [(.bi .isx [(.var 0), (.lit (.cls "NoBottom"))]), (.bi .isx [(.var 0), (.lit (.cls "NotJoined"))]), (.bi .isx [(.var 0), (.lit (.cls "NoTelling"))]), (.bi .isx [(.var 0), (.lit (.cls "NoTie"))])]),
  .asg (.nm 1) (.bin .Add (.var 1) (.lst [(.bi .isx [(.var 0), (.lit (.cls "BadName"))]), (.bi .isx [(.var 0), (.lit (.cls "Taken"))]), (.bi .isx [(.var 0), (.lit (.cls "NoSuch"))]), (.bi .isx [(.var 0), (.lit (.cls "InUse"))])])),
  .asg (.nm 1) (.bin .Add (.var 1) (.lst [(.bi .isx [(.var 0), (.lit (.cls "Full"))]), (.bi .isx [(.var 0), (.lit (.cls "Far"))]), (.bi .isx [(.var 0), (.lit (.cls "Flat"))]), (.bi .isx [(.var 0), (.lit (.cls "BadWeight"))])])),
  .asg (.nm 1) (.bin .Add (.var 1) (.lst [(.bi .isx [(.var 0), (.lit (.cls "SameScale"))]), (.bi .isx [(.var 0), (.lit (.cls "Vouched"))]), (.bi .isx [(.var 0), (.lit (.cls "NotVouched"))])])),
  .asg (.nm 1) (.bin .Add (.var 1) (.lst [(.bi .isx [(.var 0), (.lit (.cls "NotSheer"))]), (.bi .isx [(.var 0), (.lit (.cls "Clash"))]), (.bi .isx [(.var 0), (.lit (.cls "NoText"))]), (.bi .isx [(.var 0), (.lit (.cls "NoBook"))])])),
  .asg (.nm 1) (.bin .Add (.var 1) (.lst [(.bi .isx [(.var 0), (.lit (.cls "NoLevel"))]), (.bi .isx [(.var 0), (.lit (.cls "NothingDone"))]), (.bi .isx [(.var 0), (.lit (.cls "NoLine"))])])),
  .ret (.band (.cmp .Eq (.mth .count (.var 1) [(.lit (.bl true))]) (.lit (.int 1))) (.band (.bi .isx [(.var 0), (.lit (.cls "BookError"))]) (.bi .isx [(.var 0), (.lit (.cls "ValueError"))])))]⟩
def F_reach_among : Fn := ⟨2, 2, [.ret (.bi .sorted1 [(.call 41 [(.var 0), (.var 1)] [])])]⟩
def F_heir_of : Fn := ⟨2, 7, [.asg (.nm 2) (.call 51 [(.var 0), (.var 1)] []),
  .asg (.nm 3) (.call 39 [(.var 0)] []),
  .ifs (.cmp .NotIn (.var 2) (.var 3)) [.raise "NoTie" ["name"] [(.var 1)]] [],
  .asg (.nm 4) (.call 89 [(.comp (.var 6) [6] .one .seq [(.var 3)] (some (.cmp .NotEq (.var 6) (.var 2))) [6]), (.idx (.var 2) (.lit (.int 1)))] []),
  .fr [5] .one .seq [(.call 32 [(.var 0)] [])] [.ifs (.band (.cmp .NotEq (.var 5) (.var 2)) (.cmp .NotEq (.cmp .In (.idx (.var 5) (.lit (.int 1))) (.var 4)) (.cmp .In (.idx (.var 5) (.lit (.int 2))) (.var 4)))) [.ret (.idx (.var 5) (.lit (.int 0)))] []],
  .ret (.lit .non)]⟩
def F_law_whole : Fn := ⟨1, 1, [.ret (.band (.bi .isinst [(.var 0), (.lit (.ty .int))]) (.nt (.bi .isinst [(.var 0), (.lit (.ty .bool))])))]⟩
def F_law_heir : Fn := ⟨2, 4, [.asg (.nm 2) (.lit .non),
  .tryN [.asg (.nm 3) (.call 90 [(.var 0), (.var 1)] []),
  .asg (.nm 2) (.ite (.cmp .IsNot (.var 3) (.lit .non)) (.lst [(.var 3)]) (.lst []))] "NoTie" ["NoBottom", "NoTelling", "NoTie", "NotJoined"] [.asg (.nm 2) (.lit .non)],
  .ret (.var 2)]⟩
def F_law_same_hot_2 : Fn := ⟨2, 4, [.ifs (.bi .isinst [(.var 1), (.tup [(.lit (.ty .tuple)), (.lit (.ty .list))])]) [.ifs (.cmp .NotEq (.bi .isinst [(.var 0), (.lit (.ty .tuple))]) (.bi .isinst [(.var 1), (.lit (.ty .tuple))])) [.ret (.lit (.bl false))] [],
  .ifs (.bor (.cmp .NotEq (.bi .isinst [(.var 0), (.lit (.ty .list))]) (.bi .isinst [(.var 1), (.lit (.ty .list))])) (.cmp .NotEq (.bi .len [(.var 0)]) (.bi .len [(.var 1)]))) [.ret (.lit (.bl false))] [],
  .ret (.bi .all [(.comp (.call 377 [(.var 2), (.var 3)] []) [2, 3] .tup .zipT [(.var 0), (.var 1)] none [2, 3])])] [],
  .ifs (.cmp .Is (.var 1) (.lit .non)) [.ret (.cmp .Is (.var 0) (.lit .non))] [],
  .ifs (.bi .isinst [(.var 1), (.lit (.ty .str))]) [.ret (.band (.bi .isinst [(.var 0), (.lit (.ty .str))]) (.cmp .Eq (.var 0) (.var 1)))] [],
  .ret (.band (.bi .isinst [(.var 0), (.lit (.ty .int))]) (.band (.cmp .Eq (.bi .isinst [(.var 0), (.lit (.ty .bool))]) (.bi .isinst [(.var 1), (.lit (.ty .bool))])) (.cmp .Eq (.var 0) (.var 1))))]⟩
def F_law_apart_2 : Fn := ⟨3, 5, [.asg (.nm 3) (.lit (.bl false)),
  .tryH [.ex (.call 43 [(.var 0), (.var 1), (.var 2)] [])] ["NoBottom", "NoTelling", "NoTie", "NotJoined"] [.hd "NotJoined" (some 4) [.asg (.nm 3) (.band (.call 77 [(.var 4)] []) (.call 377 [(.tup [(.xat (.var 4) "start" "NotJoined"), (.xat (.var 4) "end" "NotJoined")]), (.tup [(.var 1), (.var 2)])] []))]],
  .ret (.var 3)]⟩
def F_law_39 : Fn := ⟨1, 17, [.asg (.nm 1) (.call 4 [(.var 0)] []),
  .asg (.nm 2) (.call 34 [(.var 1), (.bin .Add (.lit (.int 1)) (.call 6 [(.var 1), (.lit (.int 6))] []))] []),
  .asg (.nm 3) (.call 36 [(.var 1), (.var 2), (.bin .Add (.lit (.int 1)) (.call 6 [(.var 1), (.lit (.int 14))] []))] []),
  .asg (.tup [4, 5, 6, 7, 8]) (.idx (.var 3) (.call 6 [(.var 1), (.bi .len [(.var 3)])] [])),
  .asg (.nm 9) (.comp (.var 14) [14] .one .seq [(.var 3)] (some (.cmp .NotEq (.idx (.var 14) (.lit (.int 0))) (.var 4))) [14]),
  .asg (.nm 10) (.call 56 [(.var 3)] []),
  .asg (.nm 11) (.call 136 [(.var 3), (.var 4)] []),
  .ifs (.cmp .Is (.var 11) (.lit .non)) [.asg (.nm 12) (.comp (.var 15) [15] .one .seq [(.call 47 [(.var 3)] [])] (some (.cmp .NotEq (.idx (.var 15) (.lit (.int 0))) (.var 4))) [15]),
  .ret (.band (.cmp .NotIn (.var 4) (.var 10)) (.band (.call 7 [(.call 56 [(.var 9)] []), (.var 10)] []) (.call 7 [(.call 47 [(.var 9)] []), (.var 12)] [])))] [],
  .asg (.nm 13) (.comp (.var 16) [16] .one .seq [(.call 33 [(.var 9)] [])] (some (.cmp .In (.var 16) (.bin .Add (.var 10) (.var 11)))) [16]),
  .ifs (.bor (.cmp .NotIn (.var 4) (.var 10)) (.bor (.nt (.call 7 [(.call 56 [(.var 9)] []), (.var 13)] [])) (.cmp .NotEq (.bi .len [(.var 13)]) (.bin .Add (.bin .Sub (.bi .len [(.var 10)]) (.lit (.int 1))) (.bi .len [(.var 11)]))))) [.ret (.lit (.bl false))] [],
  .ret (.band (.cmp .Eq (.call 378 [(.var 9), (.var 5), (.var 6)] []) (.cmp .Eq (.var 11) (.lst []))) (.nt (.call 378 [(.var 3), (.var 5), (.var 6)] [])))]⟩
end Sb
namespace Sb
def tbl : Nat → Fn
  | 0 => F_common
  | 15 => F_fraction_of
  | 16 => F_plus_of
  | 17 => F_less_of
  | 18 => F_times_of
  | 19 => F_over_of
  | 20 => F_stretch_by
  | 21 => F_read_by
  | 22 => F_move_then
  | 23 => F_move_back
  | 32 => F_in_order
  | 33 => F_order_of
  | 51 => F_named
  | 39 => F_tie_rows
  | 56 => F_ties_of
  | 40 => F_steps_from
  | 41 => F_roads_among
  | 42 => F_road_among
  | 89 => F_reach_among
  | 43 => F_road_of
  | 44 => F_chain_move
  | 90 => F_heir_of
  | 46 => F_bars_of
  | 47 => F_words_of
  | 4 => F_law_start
  | 6 => F_law_draw
  | 5 => F_law_mix
  | 91 => F_law_whole
  | 7 => F_law_same
  | 9 => F_law_lowest
  | 24 => F_law_plus
  | 25 => F_law_times
  | 26 => F_law_led
  | 27 => F_law_then
  | 28 => F_law_back
  | 34 => F_law_names
  | 35 => F_law_world
  | 36 => F_law_tellings
  | 378 => F_law_apart_2
  | 136 => F_law_heir
  | 379 => F_law_39
  | 77 => F_law_alone
  | 377 => F_law_same_hot_2
  | _ => ⟨0, 0, []⟩
end Sb
namespace Sb
open PySem PySem.Spec PyProof.Rows L2
section
variable {X : Cx} {pins : List (Addr × Obj)} {σ : L2.St} {H : Hp} {s : Shared}
/-- an untracked record of ours is tracked from now on -/
theorem inv_adopt {D : Addr} {ho : HO} (I : Inv X pins σ H s) (f : FpOk X pins H D) (new : ObjOk X.prog X.w (upd H D ho) s.heap D ho) : Inv X pins σ (upd H D ho) s := by
  have nD : ∀ b u, H b = some u → b ≠ D := fun b u e z => by
    rw [z, f.1] at e
    cases e
  have key := I.step (h' := s.heap) (H' := upd H D ho) (g' := s.gens) (t' := s.toks) (d' := s.drawn) (ch := [D])
    (fun b hb => by
      have e : b = D := by simpa using hb
      subst e
      exact ⟨f.2.2.2.1, f.2.1, f.2.2.2.2.1, f.2.2.2.2.2⟩)
    (fun b o _ _ _ e _ => e) (fun b o _ _ _ e _ => ⟨o.slots, e⟩) (fun b o hc e n => by rw [upd_ne (fun z => hc (by simp [z]))]; exact n) (fun b o _ e => ⟨o, e⟩)
    (fun b xs e => by rw [upd_ne (nD b _ e)]; exact e) (fun b o u e => by rw [upd_ne (nD b _ e)]; exact e) (fun b ps e => ⟨#[], by rw [upd_ne (nD b _ e), e]; simp⟩)
    (fun m hm => hm) (fun b u e => by
      by_cases hb : b = D
      · subst hb
        rw [upd_same] at e
        cases e
        exact new
      · rw [upd_ne hb] at e
        exact (I.hok b u e).stay (fun c v hc q => q) (fun d q => by rw [upd_ne (nD d _ q)]; exact q) fun d xs q => by rw [upd_ne (nD d _ q)]; exact q) I.bare
  exact key
end
/-- the items of a list or a tuple collected -/
theorem collect_seq {prog : Program} {w : World} {A : Around} {E : Value → Shared → Prop} {s : Shared} {l : Addr} {vs : List Value} {Q : List Value → Shared → Prop} (hl : s.heap.IsList l vs.toArray ∨ IsTup s.heap l vs.toArray)
    (h : Q vs { s with heap := (s.heap.push (seqObj "list" #[] 0)).update s.heap.objs.size (Obj.mapSeq (· ++ vs.toArray)) }) (hsz : vs.length ≤ sizeLine) :
    wpAny (model prog w) A (collect (.ref l)) Q E s := by
  rcases hl with hl | hl
  · exact collect_list hl h hsz
  obtain ⟨o, ho, hc, n, hd⟩ := id hl
  unfold collect
  refine wpAny_bind (wpAny_runValue (codeAny_builtin entry_proto_collect' ?_))
  show wpAny _ _ (do again (.builtin "list.__iadd__" ⟨[← newList [], .ref l], []⟩)) _ _ s
  refine wpAny_bind (wpAny_newList (wpAny_pure ⟨Code.quiet_builtin _ (by decide +kernel), codeAny_builtin entry_list_iadd' ?_⟩))
  show wpAny _ _ (Builtin.List.listExtendWith (.ref s.heap.objs.size) (.ref l) (.ref s.heap.objs.size)) _ _ { s with heap := s.heap.push (seqObj "list" #[] 0) }
  unfold Builtin.List.listExtendWith
  have ho' : (s.heap.push (seqObj "list" #[] 0)).get? l = some o := Heap.get?_push_of_some _ ho
  refine wpAny_bind (wpAny_typeOf (T := "tuple") ⟨o, ho', hc⟩ ?_)
  rw [if_pos (by rw [show (Value.type "tuple" == Value.type "tuple") = true from rfl]; simp)]
  refine wpAny_bind (listItems_at ho' hd ?_)
  refine wpAny_bind (listItems_at (xs := #[]) (n := 0) (Heap.get?_push_size _ rfl) rfl ?_)
  rw [if_neg (by simp)]
  refine wpAny_bind (listUpdate_at (xs := #[]) (n := 0) (Heap.get?_push_size _ rfl) rfl ?_ (Nat.zero_le _) (by show (#[] ++ vs.toArray).size ≤ sizeLine + 1; simp only [Array.size_append, List.size_toArray, List.length_nil]; omega))
  refine wpAny_pure ?_
  show wpAny (model prog w) A (do
      let o ← load s.heap.objs.size
      match o.data with
      | .seq xs _ => pure xs.toList
      | _ => unsupported "internal:collect") Q E { s with heap := (s.heap.push (seqObj "list" #[] 0)).update s.heap.objs.size (Obj.mapSeq (· ++ vs.toArray)) }
  refine wpAny_bind (wpAny_load (get?_update_seq (Heap.get?_push_size _ rfl) _) ?_)
  show wpAny _ _ (pure ((#[] : Array Value) ++ vs.toArray).toList) Q E _
  rw [show ((#[] : Array Value) ++ vs.toArray).toList = vs by simp]
  exact wpAny_pure h
/-- a lambda that captures nothing is called -/
theorem run_lam {CX : CXT} {P : Program} {w : World} {K : PySem.W.Frag} {mg : Str → Option Value} {base : Heap} {k : Nat} {f c' : Addr} {qual : Str} {params : Arguments} {body : Expr} {scope : Scope} {pm ctv : Value} {N ps : List Str}
    {A : Around} {outer : List PySem.Env} {s : Shared} {H : Hp} {args : Args} {us : List Value} {vs : List V} {Q : VK} {E : XK}
    (hf : s.heap.get? f = some (PySem.W.kla_obj "<lambda>" qual params body scope [] pm c' ctv)) (hc : H c' = some (LamX.CodeO c' qual)) (S : FnScope N ps scope) (hr : Room (k + 1) A) (e0 : Env0 P w K mg base A outer s H)
    (hb : BindsTo s (PySem.W.kla_fn "<lambda>" qual params body scope [] pm (.ref c') ctv) args (ps.zip us)) (r : Vals vs us) (hl : vs.length = ps.length)
    (hbody : Room k (A.deeper (envOfC qual scope s.heap.objs.size f (.ref c'))) → ∃ t, PE (cxOf CX P w K mg base N qual scope f (.ref c') A outer s H E) body t ∧ t (L2.start N vs) H Q) :
    codeAny (model P w) A (.call (.ref f) args) (CR CX outer P w H s Q E) s := by
  have lim : s.heap.NoLimit := e0.mod.nolimit.keeps fun b o e => (e0.bs b o e).1
  have hkind : ∀ y ∈ ps.zip us, scope.names.lookup y.1 = some .local ∨ (scope.names.lookup y.1 = some .cell ∧ ((cellsFrom (s.heap.objs.size + 1) scope.names []).lookup y.1).isSome = true) := fun ⟨n, v⟩ hy => by
    rcases S.par n (List.of_mem_zip hy).1 with q | q
    · exact .inl q
    · exact .inr ⟨q, PySem.W.cellsFrom_some _ _ _ (.inl q)⟩
  obtain ⟨⟨oc, cvs, t, hoc, hdc, hvc⟩, _, _⟩ := e0.hok c' _ hc
  refine PySem.W.kla_callFunE hr.depth hf rfl S.co S.gen rfl ⟨c', oc, cvs, t, rfl, hoc, hdc, hvc⟩ (hb _ _ _ _ ?_)
  refine wpAny_newFunctionEnv_cells S.kind hkind fun env he s1 x => ?_
  subst he
  refine ⟨lim.keeps x.toInCall.keep, PySem.W.kla_codeExpr ?_⟩
  obtain ⟨t, ht, hq⟩ := hbody (hr.deeper _)
  have I : Inv (cxOf CX P w K mg base N qual scope f (.ref c') A outer s H E) [] (L2.start N vs) H s1 := inv_start S hr.hd e0 hl r x
  refine wpAny_mono (ht.run [] s1 (L2.start N vs) H Q I hq) (fun v s' hs => ?_) fun e s' hs => hs
  obtain ⟨v, H', J, rv, q⟩ := hs
  exact ⟨v, H', J.os, J.bare, J.base, J.hok, rv, q⟩
theorem cxN_false {P : Program} {w : World} {outer : List PySem.Env} {H : Hp} {s : Shared} {e : Value} {s' : Shared} (h : L2N.CX P w outer H s (fun _ _ _ => False) e s') : False := by
  obtain ⟨_, _, _, _, _, _, _, _, _, _, _, _, z⟩ := h
  exact z.elim
def keyTup (k : Int × Str) : PV := .tup [.int (-k.1), .str k.2]
structure Z5 where
  k : Int × Str
  p : PV
  v : V
  ky : Value
  u : Value
theorem rows_of {K : ZZ} {φ : List Addr} {H : Hp} : ∀ {l : List PV} {ks : List (Int × Str)} {xs kv : List V} {kA its : List Value}, mapO zbk l = some ks → RVs K φ H l xs → Vals xs its → RVs K φ H (ks.map keyTup) kv → Vals kv kA →
    ∃ Z : List Z5, Z.map (·.k) = ks ∧ Z.map (·.p) = l ∧ Z.map (·.v) = xs ∧ Z.map (·.ky) = kA ∧ Z.map (·.u) = its ∧ ∀ z ∈ Z, RV K φ H z.p z.v ∧ RelV z.v z.u ∧ ∃ kvz, RV K φ H (keyTup z.k) kvz ∧ RelV kvz z.ky
  | [], ks, xs, kv, kA, its, e, r, rv, rk, rkv => by
    cases e
    have e1 : xs = [] := r
    have e2 : kv = [] := rk
    subst e1 e2
    cases rv
    cases rkv
    exact ⟨[], rfl, rfl, rfl, rfl, rfl, fun z hz => by cases hz⟩
  | p :: l, ks, xs, kv, kA, its, e, r, rv, rk, rkv => by
    unfold mapO at e
    cases z1 : zbk p with
    | none => simp only [z1] at e; cases e
    | some k1 =>
      cases z2 : mapO zbk l with
      | none => simp only [z1, z2] at e; cases e
      | some k2 =>
        simp only [z1, z2] at e
        cases e
        obtain ⟨v, t, e1, q, s⟩ := r
        subst e1
        obtain ⟨w, t2, e2, q2, s2⟩ := rk
        subst e2
        cases rv with
        | cons r1 r2 =>
          cases rkv with
          | cons r3 r4 =>
            obtain ⟨Z, h1, h2, h3, h4, h5, h6⟩ := rows_of z2 s r2 s2 r4
            refine ⟨⟨k1, p, v, _, _⟩ :: Z, by simp [h1], by simp [h2], by simp [h3], by simp [h4]; rfl, by simp [h5]; rfl, fun z hz => ?_⟩
            rcases List.mem_cons.mp hz with rfl | hz
            · exact ⟨q, r1, w, q2, r3⟩
            · exact h6 z hz
theorem perm_lift {α β : Type} {f : α → β} : ∀ {x m : List β}, x.Perm m → ∀ l : List α, x = l.map f → ∃ l' : List α, l'.Perm l ∧ l'.map f = m := by
  intro x m h
  induction h with
  | nil =>
    intro l e
    exact ⟨l, .refl _, e.symm⟩
  | cons a h ih =>
    intro l e
    cases l with
    | nil => cases e
    | cons b l =>
      rw [List.map_cons] at e
      injection e with e1 e2
      obtain ⟨l', p, q⟩ := ih l e2
      exact ⟨b :: l', p.cons b, by rw [List.map_cons, q, e1]⟩
  | swap a b m =>
    intro l e
    match l, e with
    | c :: d :: l, e =>
      rw [List.map_cons, List.map_cons] at e
      injection e with e1 e2
      injection e2 with e2 e3
      exact ⟨d :: c :: l, .swap _ _ _, by rw [List.map_cons, List.map_cons, ← e1, ← e2, ← e3]⟩
  | trans h1 h2 ih1 ih2 =>
    intro l e
    obtain ⟨l', p, q⟩ := ih1 l e
    obtain ⟨l2, p2, q2⟩ := ih2 l' q.symm
    exact ⟨l2, p2.trans p, q2⟩
/-- the order -/
theorem leTel_trans (a b c : Int × Str) (h1 : leTel a b = true) (h2 : leTel b c = true) : leTel a c = true := by
  unfold leTel at *
  simp only [Bool.or_eq_true, Bool.and_eq_true, decide_eq_true_eq] at *
  rcases h1 with h1 | ⟨h1, h1'⟩ <;> rcases h2 with h2 | ⟨h2, h2'⟩
  · exact .inl (by omega)
  · exact .inl (by omega)
  · exact .inl (by omega)
  · exact .inr ⟨by omega, leStr_trans _ _ _ h1' h2'⟩
theorem zcv (a b : Int × Str) : (leTel a b || leTel b a) = true := by
  unfold leTel
  simp only [Bool.or_eq_true, Bool.and_eq_true, decide_eq_true_eq]
  have := leStr_total a.2 b.2
  rw [Bool.or_eq_true] at this
  rcases Int.lt_trichotomy a.1 b.1 with z | z | z
  · exact .inr (.inl z)
  · rcases this with t | t
    · exact .inl (.inr ⟨z, t⟩)
    · exact .inr (.inr ⟨z.symm, t⟩)
  · exact .inl (.inl z)
theorem leTel_anti {a b : Int × Str} (h1 : leTel a b = true) (h2 : leTel b a = true) : a = b := by
  unfold leTel at *
  simp only [Bool.or_eq_true, Bool.and_eq_true, decide_eq_true_eq] at *
  rcases h1 with h1 | ⟨h1, h1'⟩ <;> rcases h2 with h2 | ⟨h2, h2'⟩
  · omega
  · omega
  · omega
  · exact Prod.ext h1 (leStr_anti h1' h2')
theorem zip_inj {α β : Type} : ∀ {ks : List α} {l : List β} {a b : α × β}, ks.Nodup → a ∈ ks.zip l → b ∈ ks.zip l → a.1 = b.1 → a = b
  | [], l, a, b, nd, ha, hb, e => by simp at ha
  | k :: ks, [], a, b, nd, ha, hb, e => by simp at ha
  | k :: ks, p :: l, a, b, nd, ha, hb, e => by
    rw [List.zip_cons_cons] at ha hb
    obtain ⟨n1, n2⟩ := List.nodup_cons.mp nd
    rcases List.mem_cons.mp ha with rfl | ha <;> rcases List.mem_cons.mp hb with rfl | hb
    · rfl
    · exact absurd (List.of_mem_zip hb).1 (by rw [← e]; exact n1)
    · exact absurd (List.of_mem_zip ha).1 (by rw [e]; exact n1)
    · exact zip_inj n2 ha hb e
theorem sortT_eq {Z Z' : List Z5} (nd : (Z.map (·.k)).Nodup) (p : Z'.Perm Z) (o : Z'.Pairwise fun a b => leTel a.k b.k = true) : Z'.map (·.p) = sortT (Z.map (·.k)) (Z.map (·.p)) := by
  unfold sortT
  have e0 : (Z.map (·.k)).zip (Z.map (·.p)) = Z.map fun z => (z.k, z.p) := by
    clear nd p o
    induction Z with
    | nil => rfl
    | cons z Z ih => simp [ih]
  have e1 : Z'.map (fun z => (z.k, z.p)) = ((Z.map (·.k)).zip (Z.map (·.p))).mergeSort fun p q => leTel p.1 q.1 := by
    refine ((p.map _).trans (by rw [e0]; exact (List.mergeSort_perm _ _).symm)).eq_of_pairwise (le := fun p q : (Int × Str) × PV => leTel p.1 q.1 = true) (fun a b ha hb h1 h2 => ?_) (by rw [List.pairwise_map]; exact o) (List.pairwise_mergeSort (le := fun p q : (Int × Str) × PV => leTel p.1 q.1) (fun a b c => leTel_trans a.1 b.1 c.1) (fun a b => zcv a.1 b.1) _)
    refine zip_inj nd ?_ ((List.mergeSort_perm _ _).mem_iff.mp hb) (leTel_anti h1 h2)
    rw [e0]
    exact (p.map _).mem_iff.mp ha
  rw [← e1, List.map_map]
  rfl
/-- the shape of a key: an int, a text -/
def shK : Nat → Bool := fun i => i == 1
abbrev itK (k : Int × Str) : List (Int ⊕ List Nat) := [Sum.inl (-k.1), Sum.inr k.2.cps.toList]
theorem kle_tel {a b : Int × Str} (h : lexLt itemOrd (itK b) (itK a) = false) : leTel a b = true := by
  obtain ⟨h1, h2⟩ := lex_false.mp h
  unfold leTel
  simp only [Bool.or_eq_true, Bool.and_eq_true, decide_eq_true_eq]
  have h1' : decide (-b.1 < -a.1) = false := h1
  rw [decide_eq_false_iff_not] at h1'
  by_cases e : a.1 = b.1
  · refine .inr ⟨e, ?_⟩
    rcases h2 with h2 | h2
    · have h2' : decide (-a.1 < -b.1) = true := h2
      rw [decide_eq_true_eq] at h2'
      omega
    · obtain ⟨h3, _⟩ := lex_false.mp h2
      have h3' : decide (b.2.cps.toList < a.2.cps.toList) = false := h3
      rw [leStr_iff]
      exact of_decide_eq_false h3'
  · exact .inl (by omega)
section
variable {X : Cx} {pins : List (Addr × Obj)} {σ : L2.St} {H : Hp} {s : Shared} {φ : List Addr}
theorem key_at {k : Int × Str} {kv : V} {u : Value} (I : Inv X pins σ H s) (r : RV (zOf X) φ H (keyTup k) kv) (ru : RelV kv u) : ∃ a t1 t2, u = .ref a ∧ IsTup s.heap a #[.int (-k.1) t1, .str k.2 t2] := by
  obtain ⟨a, vs, e, q, rs⟩ := r
  obtain ⟨w1, w2, e2, r1, r2⟩ := rs.two
  have e3 : w1 = .int (-k.1) := r1
  have e4 : w2 = .str k.2 := r2
  subst e e2 e3 e4
  obtain rfl : u = Value.ref a := ru
  obtain ⟨its, rv, ht, hz⟩ := I.tuple q.sq
  obtain ⟨u1, u2, e5, q1, q2⟩ := vals2' rv
  obtain ⟨t1, rfl⟩ := q1
  obtain ⟨t2, rfl⟩ := q2
  subst e5
  exact ⟨a, t1, t2, rfl, ht⟩
theorem key_tupC {k : Int × Str} {u : Value} {h : Heap} (e : ∃ a t1 t2, u = .ref a ∧ IsTup h a #[.int (-k.1) t1, .str k.2 t2]) : G.tupKeyC h shK u = some (itK k) ∧ ∃ f, TupOf h shK u f := by
  obtain ⟨a, t1, t2, rfl, o, ho, hc, n, hd⟩ := e
  constructor
  · unfold G.tupKeyC
    rw [if_pos (by simp only [G.isTupObj, ho, hc]; rfl)]
    simp only [tupKey, ho, hd]
    simp [tupItems, shK]
  · exact ⟨.int (-k.1) t1, a, o, _, n, rfl, ho, hc, hd, rfl, fun _ => ⟨_, _, rfl⟩, fun z => by cases z⟩
theorem tups_all {h : Heap} : ∀ {us : List Value}, (∀ u ∈ us, ∃ f, TupOf h shK u f) → ∃ fs, TupsOf h shK us fs ∧ fs.length = us.length
  | [], _ => ⟨[], .nil, rfl⟩
  | u :: us, hh => by
    obtain ⟨f, hf⟩ := hh u List.mem_cons_self
    obtain ⟨fs, h1, h2⟩ := tups_all (us := us) fun u hu => hh u (List.mem_cons_of_mem _ hu)
    exact ⟨f :: fs, .cons hf h1, by simp [h2]⟩
end
def kyA (Z : List Z5) : Array Value := (Z.map (·.ky)).toArray
def usA (Z : List Z5) : Array Value := (Z.map (·.u)).toArray
theorem kyA_size (Z : List Z5) : (kyA Z).size = Z.length := by simp [kyA]
theorem usA_size (Z : List Z5) : (usA Z).size = Z.length := by simp [usA]
theorem zipA (Z : List Z5) : ((kyA Z).zip (usA Z)).toList = Z.map fun z => (z.ky, z.u) := by
  rw [Array.toList_zip]
  show (Z.map (·.ky)).zip (Z.map (·.u)) = _
  induction Z with
  | nil => rfl
  | cons z Z ih => simp [ih]
theorem zipA_size (Z : List Z5) : ((kyA Z).zip (usA Z)).size = Z.length := by rw [Array.size_zip, kyA_size, usA_size, Nat.min_self]
/-- what the sort's end gives -/
theorem sorted_out {h : Heap} {Z : List Z5} {xs : Array Keyed} (hp : xs.Perm ((kyA Z).zip (usA Z))) (hk : ∀ z ∈ Z, G.tupKeyC h shK z.ky = some (itK z.k)) (hs : SortedToK (G.tupKindC h shK) xs xs.size) :
    ∃ Z' : List Z5, Z'.Perm Z ∧ Z'.map (fun z => (z.ky, z.u)) = xs.toList ∧ Z'.Pairwise fun a b => leTel a.k b.k = true := by
  have hl : xs.toList.Perm (Z.map fun z => (z.ky, z.u)) := by
    rw [← zipA]
    exact Array.perm_iff_toList_perm.mp hp
  obtain ⟨Z', p, e⟩ := perm_lift hl.symm Z rfl
  refine ⟨Z', p, e, ?_⟩
  rw [List.pairwise_iff_getElem]
  intro i j hi hj hij
  have len : xs.size = Z'.length := by
    have := congrArg List.length e
    simpa using this.symm
  have q := hs i j (Nat.le_of_lt hij) (by omega)
  have at_ : ∀ (m : Nat) (hm : m < Z'.length), KK (G.tupKindC h shK) xs m = itK (Z'[m].k) := fun m hm => by
    have e1 : xs[m]? = some (Z'[m].ky, Z'[m].u) := by
      rw [← Array.getElem?_toList, ← e, List.getElem?_map, List.getElem?_eq_getElem hm]
      rfl
    unfold KK
    rw [e1]
    show (G.tupKeyC h shK Z'[m].ky).getD [] = _
    rw [hk _ (p.mem_iff.mp (List.getElem_mem hm))]
    rfl
  rw [at_ i hi, at_ j hj] at q
  exact kle_tel q
theorem sort_end {prog : Program} {w : World} {A : Around} {E : Value → Shared → Prop} {s : Shared} {D kS : Addr} {Z : List Z5} {e e1 : Nat} {P : PySem.Fin → Shared → Prop} (hne : kS ≠ D) (hD : s.heap.get? D = some (seqObj "list" #[] e1)) (hK : s.heap.get? kS = some (seqObj "list" (kyA Z) e)) (hz : Z.length ≤ 1000)
    (hk : ∀ z ∈ Z, ∃ a t1 t2, z.ky = .ref a ∧ IsTup s.heap a #[.int (-z.k.1) t1, .str z.k.2 t2])
    (h : ∀ (Z' : List Z5) (h' : Heap) (c : Nat), Z'.Perm Z → (Z'.Pairwise fun a b => leTel a.k b.k = true) → (∀ b o, b ≠ D → b ≠ kS → s.heap.get? b = some o → h'.get? b = some o) → h'.get? D = some (seqObj "list" (usA Z') c) → P (.done (.ret .none)) { s with heap := h' }) :
    wpAny (model prog w) A (ksk_end D false (usA Z) e1 (.ref kS) (kyA Z)) P E s := by
  have hsl := sizeLine_eq
  have hkk : ∀ z ∈ Z, G.tupKeyC s.heap shK z.ky = some (itK z.k) := fun z hz => (key_tupC (hk z hz)).1
  -- the tail
  have tail : ∀ st : SortSt, (arrOf st).Perm ((kyA Z).zip (usA Z)) → SortedToK (G.tupKindC s.heap shK) (arrOf st) (arrOf st).size → failedOf st = none → wpAny (model prog w) A (ksk_tail D false e1 (.ref kS) st) P E s := by
    intro st hp hs hfl
    obtain ⟨Z', p, eq, o⟩ := sorted_out hp hkk hs
    have hsz : (arrOf st).size = Z'.length := by
      have := congrArg List.length eq
      simpa using this.symm
    have hlen := p.length_eq
    have s1 := Heap.SameBut.update s.heap kS (Obj.mapSeq fun _ => (#[] : Array Value))
    have hD1 : (s.heap.update kS (Obj.mapSeq fun _ => (#[] : Array Value))).get? D = some (seqObj "list" #[] e1) := (s1.2 D (Ne.symm hne)).trans hD
    obtain ⟨out, eout⟩ : ∃ out, out = (arrOf st).map (·.2) := ⟨_, rfl⟩
    have eo : out = usA Z' := by
      rw [eout]
      apply Array.toList_inj.mp
      rw [Array.toList_map, ← eq, List.map_map]
      rfl
    have s2 := Heap.SameBut.update (s.heap.update kS (Obj.mapSeq fun _ => (#[] : Array Value))) D (Obj.mapSeq fun _ => out)
    have hc2 := get?_update_seq hD1 fun _ => out
    unfold ksk_tail
    simp only [Bool.false_eq_true, if_false, ← eout]
    refine wpAny_bind (listUpdate_at hK rfl ?_ (by rw [kyA_size]; omega) (Nat.zero_le _))
    refine wpAny_bind (wpAny_letGo ?_)
    refine wpAny_bind (seqEpoch_at hD1 rfl ?_)
    refine wpAny_bind (listUpdate_at hD1 rfl ?_ (Nat.zero_le _) (by rw [eo, usA_size]; omega))
    rw [hfl]
    simp only [bne_self_eq_false, Bool.false_eq_true, if_false]
    refine wpAny_pure (h Z' _ _ p o (fun b u h1 h2 e => (s2.2 b h1).trans ((s1.2 b h2).trans e)) (hc2.trans (by rw [eo])))
  have step : ∀ t : Sem PySem.Fin, wpAny (model prog w) A t P E s → wpAny (model prog w) A (if false = true then (do let _ ← rule "list.sort.reverse"; t) else t) P E s := by
    intro t ht
    rw [if_neg Bool.false_ne_true]
    exact ht
  have hzs := zipA_size Z
  unfold ksk_end
  try dsimp only
  refine step _ ?_
  rw [if_neg Bool.false_ne_true]
  by_cases h2 : (usA Z).size < 2
  · rw [if_pos h2, if_pos h2]
    refine wpAny_bind (wpAny_pure ?_)
    rw [StateT.run_pure]
    refine wpAny_bind (wpAny_pure ?_)
    try dsimp only
    refine tail (SortSt.mk' general' ((kyA Z).zip (usA Z)) #[] 7 none) (Array.Perm.refl _) ?_ rfl
    intro i j hij hj
    have hj2 : j < ((kyA Z).zip (usA Z)).size := hj
    rw [hzs] at hj2
    rw [usA_size] at h2
    have : i = j := by omega
    subst this
    exact KeyOrd.kle_refl _
  · rw [if_neg h2, if_neg h2]
    rw [usA_size] at h2
    obtain ⟨fs, ht, hfl⟩ := tups_all (h := s.heap) (us := Z.map (·.ky)) fun u hu => by
      obtain ⟨z, hz, rfl⟩ := List.mem_map.mp hu
      exact (key_tupC (hk z hz)).2
    refine wpAny_bind (tup_kind (by rw [hfl, List.length_map]; omega) ht ?_)
    refine wpAny_bind (wpAny_mono (G.wpS_sortRunsSt (κ := G.tupKindC s.heap shK) (kd := tuples' true) (a₀ := (kyA Z).zip (usA Z)) (st := SortSt.mk' (tuples' true) ((kyA Z).zip (usA Z)) #[] 7 none)
      (Q := fun _ st' => (arrOf st').Perm ((kyA Z).zip (usA Z)) ∧ failedOf st' = none ∧ SortedToK (G.tupKindC s.heap shK) (arrOf st') ((kyA Z).zip (usA Z)).size)
      (G.tupC_ltAt true (G.KeepsTups.refl _)) (fun p hp => ?_) ⟨Array.Perm.refl _, rfl, rfl⟩ rfl (Stable.refl _) (by rw [hzs]; omega) fun st' a1 a2 a3 _ => ⟨a1, a2, a3⟩) ?_ fun _ _ e => e)
    · rw [zipA] at hp
      obtain ⟨z, hz, e⟩ := List.mem_map.mp hp
      exact ⟨_, by rw [← e]; exact hkk z hz⟩
    · rintro ⟨⟨⟩, st'⟩ s' ⟨rfl, hp, hf, hs⟩
      try dsimp only
      exact tail st' hp (by rw [hp.size_eq]; exact hs) hf
end Sb
namespace Sb
open PySem PySem.Spec PyProof.Rows L2
/-- what is known of the lambda -/
structure LamI (X : Cx) (C : Calls) (ek : E) (f c' : Addr) (qual : Str) (params : Arguments) (body : Expr) (scope : Scope) (p : Str) (pm ctv : Value) : Prop where
  S : FnScope [p] [p] scope
  bind : ∀ u, bindArgs (PySem.W.kla_fn "<lambda>" qual params body scope [] pm (.ref c') ctv) ⟨[u], []⟩ = pure [(p, u)]
  je : ∀ (A : Around) (outer : List PySem.Env) (s : Shared) (H : Hp), Room 0 (A.deeper (envOfC qual scope s.heap.objs.size f (.ref c'))) → JE (cxOf (L2N.CX X.prog X.w) X.prog X.w X.K X.mg X.base [p] qual scope f (.ref c') A outer s H (fun _ _ _ => False)) W0 C body ek
  ev : ∀ (item : PV) (k : Int × Str) (hh : PH), zbk item = some k → evG C ek false [some item] hh = .ok (keyTup k) hh
section
variable {X : Cx} {pins : List (Addr × Obj)} {σ : L2.St} {φ : List Addr} {h : PH} {H : Hp} {s : Shared} {C : Calls} {ek : E} {f c' : Addr} {qual : Str} {params : Arguments} {body : Expr} {scope : Scope} {p : Str} {pm ctv : Value}
theorem key_call (L : LamI X C ek f c' qual params body scope p pm ctv) (hcalm : X.calm = true) (hr : Room 1 X.A.in1.in1) (I : Inv X pins σ H s) (hf : s.heap.get? f = some (PySem.W.kla_obj "<lambda>" qual params body scope [] pm c' ctv)) (hc : H c' = some (LamX.CodeO c' qual)) (sm : Sim (zOf X) φ h H)
    {it : PV} {x : V} {u : Value} {k : Int × Str} (ri : RV (zOf X) φ H it x) (ru : RelV x u) (hk : zbk it = some k) :
    wpAny (model X.prog X.w) X.A.in1.in1 (PySem.call (.ref f) [u]) (EP X pins σ fun v H' => ∃ φ', Ext φ φ' H H' ∧ Sim (zOf X) φ' h H' ∧ RV (zOf X) φ' H' (keyTup k) v) (fun _ _ => False) s := by
  have e0 : Env0 X.prog X.w X.K X.mg X.base X.A.in1.in1 X.stack s H := ⟨I.ok.frames, I.ok.mod, I.bs, Nat.le_trans I.ok.bsz I.sz, I.stack, I.stkFree, I.hok, I.bare⟩
  have hz : zOf X = ⟨X.K, [], X.prog, X.w⟩ := z_calm hcalm
  have rc := run_lam (CX := L2N.CX X.prog X.w) (k := 0) (args := ⟨[u], []⟩) (us := [u]) (vs := [x]) (Q := fun v H' => ∃ φ', Ext φ φ' H H' ∧ Sim (zOf X) φ' h H' ∧ RV (zOf X) φ' H' (keyTup k) v) (E := fun _ _ _ => False) hf hc L.S hr e0 (.of_eq (L.bind u)) (.cons ru .nil) rfl fun hr' => ⟨_, L.je _ _ _ _ hr', by
    rw [hz] at sm ri ⊢
    refine ⟨[some it], φ, h, sm, ⟨some x, [], rfl, fun y e => ⟨x, rfl, by cases e; exact ri⟩, rfl⟩, ?_⟩
    rw [L.ev it k h hk]
    exact fun φ' H' b xx ss rr => ⟨φ', xx, ss, rr⟩⟩
  refine wpAny_call (codeAny_mono rc fun r s' hq => ?_)
  cases r with
  | error e => exact (cxN_false hq).elim
  | ok fl =>
    cases fl with
    | ret u => exact I.after hq
    | next => exact False.elim hq
    | brk => exact False.elim hq
    | cont => exact False.elim hq
theorem codeO_ntbl {c : Addr} {q : Str} : ∀ ps, LamX.CodeO c q ≠ .tbl ps := fun ps => LamX.codeO_ne ps
theorem code_keep {φ' : List Addr} {H' : Hp} (sm : Sim (zOf X) φ h H) (x : Ext φ φ' H H') (hc : H c' = some (LamX.CodeO c' qual)) : H' c' = some (LamX.CodeO c' qual) :=
  x.keep c' _ hc (fun m => (sm.plain m _ hc).2 _ rfl) codeO_ntbl
/-- the keys are made, one behind another -/
theorem key_rest {D kS : Addr} {e1 : Nat} {l : List PV} {ks : List (Int × Str)} {xs : List V} {its : List Value} {P : PySem.Fin → Shared → Prop} {E : Value → Shared → Prop}
    (L : LamI X C ek f c' qual params body scope p pm ctv) (hcalm : X.calm = true) (hr : Room 1 X.A.in1.in1) (I : Inv X pins σ H s) (hfp : (f, PySem.W.kla_obj "<lambda>" qual params body scope [] pm c' ctv) ∈ pins) (hc : H c' = some (LamX.CodeO c' qual)) (sm : Sim (zOf X) φ h H)
    (hne : kS ≠ D) (fD : FpOk X pins H D) (fK : FpOk X pins H kS) (hD : s.heap.get? D = some (seqObj "list" #[] e1)) (hK : s.heap.get? kS = some (seqObj "list" #[] 0))
    (hk : mapO zbk l = some ks) (nd : ks.Nodup) (hl : l.length ≤ 1000) (r : RVs (zOf X) φ H l xs) (rv : Vals xs its)
    (fin : ∀ φ' H' s' outV, Inv X pins σ (upd H' D (.lst outV)) s' → Ext φ φ' H H' → Sim (zOf X) φ' h H' → H' D = none → RVs (zOf X) φ' H' (sortT ks l) outV → P (.done (.ret .none)) s') :
    wpAny (model X.prog X.w) X.A.in1.in1 (ksk_rest D (.ref f) false its.toArray e1 (.ref kS)) P E s := by
  have hsl := sizeLine_eq
  have lx := r.length
  have lv := rv.length
  have mapO_get : ∀ {l : List PV} {ks : List (Int × Str)}, mapO zbk l = some ks → ks.length = l.length ∧ ∀ (i : Nat) q, l[i]? = some q → ∃ k, ks[i]? = some k ∧ zbk q = some k := by
    intro l
    induction l with
    | nil => intro ks e; cases e; exact ⟨rfl, fun i q e => by simp at e⟩
    | cons a l ih =>
      intro ks e
      unfold mapO at e
      cases z1 : zbk a with
      | none => simp only [z1] at e; cases e
      | some k1 =>
        cases z2 : mapO zbk l with
        | none => simp only [z1, z2] at e; cases e
        | some k2 =>
          simp only [z1, z2] at e
          cases e
          obtain ⟨h1, h2⟩ := ih z2
          refine ⟨by simp [h1], fun i q e => ?_⟩
          cases i with
          | zero => simp at e; subst e; exact ⟨k1, rfl, z1⟩
          | succ i => simpa using h2 i q (by simpa using e)
  obtain ⟨lk, gk⟩ := mapO_get hk
  unfold ksk_rest
  refine wpAny_bind (wpAny_rule ?_)
  first
    | rw [List.forIn_toArray]
    | (rw [← Array.forIn_toList]; simp only [List.toList_toArray])
    | rw [← Array.forIn_toList]
  refine wpAny_bind (ksk_fold (fun i s' => ∃ Hi φi kA e kv, Inv X pins σ Hi s' ∧ FpOk X pins Hi D ∧ FpOk X pins Hi kS ∧ s'.heap.get? D = some (seqObj "list" #[] e1) ∧ s'.heap.get? kS = some (seqObj "list" kA e) ∧ Ext φ φi H Hi ∧ Sim (zOf X) φi h Hi ∧ Vals kv kA.toList ∧ RVs (zOf X) φi Hi ((ks.take i).map keyTup) kv) its 0 s
    ⟨H, φ, #[], 0, [], I, fD, fK, hD, hK, Ext.refl _ _, sm, .nil, by rw [List.take_zero]; exact rfl⟩ ?step ?done)
  case step =>
    rintro j u s' hu ⟨Hi, φi, kA, e, kv, Ii, fDi, fKi, hDi, hKi, xi, si, rvk, rk⟩
    simp only [Nat.zero_add] at rk ⊢
    have hj : j < its.length := (List.getElem?_eq_some_iff.mp hu).1
    obtain ⟨it, hit⟩ : ∃ it, l[j]? = some it := ⟨_, List.getElem?_eq_getElem (by omega)⟩
    obtain ⟨x, hx, rx⟩ := r.get hit
    obtain ⟨k, hkj, hsk⟩ := gk j it hit
    obtain ⟨u', hu', ru⟩ := rv.get hx
    rw [hu] at hu'
    cases hu'
    have hz : kA.size ≤ its.length := by
      have h1 := rk.length
      have h2 : kv.length = kA.size := rvk.length.trans Array.length_toList
      rw [List.length_map, List.length_take] at h1
      omega
    have Ip := Ii.pinned (fp := [D, kS]) (fun b hb => by
      rcases List.mem_cons.mp hb with rfl | hb
      · exact fDi
      · rw [List.mem_singleton.mp hb]; exact fKi) (fun b hb => by
      rcases List.mem_cons.mp hb with rfl | hb
      · exact ⟨_, hDi, fun v z => by cases z⟩
      · rw [List.mem_singleton.mp hb]; exact ⟨_, hKi, fun v z => by cases z⟩)
    have hfi : s'.heap.get? f = some (PySem.W.kla_obj "<lambda>" qual params body scope [] pm c' ctv) := (Ii.pin _ (List.mem_append_right _ hfp)).1
    refine wpAny_bind (wpAny_attempt (wpAny_mono (key_call L hcalm hr Ip hfi (code_keep sm xi hc) si (rx.mono xi) ru hsk) (fun v s'' he => ?_) fun _ _ hF => hF.elim))
    obtain ⟨kvv, H2, I2, rkv, φ2, x2, s2, rk2⟩ := he
    have pD := I2.pin (D, seqObj "list" #[] e1) (List.mem_append_right _ (List.mem_append_right _ (mem_pinsAt (by simp) hDi)))
    have pK := I2.pin (kS, seqObj "list" kA e) (List.mem_append_right _ (List.mem_append_right _ (mem_pinsAt (by simp) hKi)))
    have I3 : Inv X pins σ H2 s'' := I2.unpinned
    have fD2 : FpOk X pins H2 D := ⟨pD.2.1, fDi.2⟩
    have fK2 : FpOk X pins H2 kS := ⟨pK.2.1, fKi.2⟩
    try dsimp only
    have s1 := Heap.SameBut.update s''.heap kS (Obj.mapSeq (·.push v))
    have hc2 := get?_update_seq pK.1 (·.push v)
    refine wpAny_bind (listUpdate_at pK.1 rfl ?_ (by omega) (Nat.le_trans (Nat.le_of_eq (Array.size_push ..)) (by omega)))
    refine wpAny_pure ⟨rfl, H2, φ2, kA.push v, _, kv ++ [kvv], ?_, fD2, fK2, (s1.2 D (Ne.symm hne)).trans pD.1, hc2, xi.trans x2, s2, ?_, ?_⟩
    · exact I3.turned (t' := s''.toks) (fun b o hb e => (s1.2 b hb).trans e) fK2.1 fK2.2.1 fK2.2.2.2.1 fK2.2.2.2.2.1 fK2.2.2.2.2.2
    · have ea : (kA.push v).toList = kA.toList ++ [v] := by simp
      rw [ea]
      exact rvk.append (.cons rkv .nil)
    · have ek : ks.take (j + 1) = ks.take j ++ [k] := by rw [List.take_add_one, hkj]; simp
      rw [ek, List.map_append]
      exact (rk.mono x2).append (RVs.cons rk2 RVs.nil)
  case done =>
    rintro s' ⟨Hi, φi, kA, e, kv, Ii, fDi, fKi, hDi, hKi, xi, si, rvk, rk⟩
    have et : ks.take (0 + its.length) = ks := List.take_of_length_le (by omega)
    rw [et] at rk
    try dsimp only
    refine wpAny_bind (listItems_at hKi rfl ?_)
    obtain ⟨Z, z1, z2, z3, z4, z5, z6⟩ := rows_of hk (r.mono xi) rv rk rvk
    have eK : kA = kyA Z := by
      unfold kyA
      rw [z4, Array.toArray_toList]
    have eU : its.toArray = usA Z := by
      unfold usA
      rw [z5]
    rw [eK] at hKi
    rw [eK, eU]
    have lz : Z.length = l.length := by rw [← z2, List.length_map]
    refine sort_end hne hDi hKi (by omega) (fun z hz => ?_) fun Z' h' c p o k hD' => ?_
    · obtain ⟨_, _, kvz, q1, q2⟩ := z6 z hz
      exact key_at Ii q1 q2
    · have I4 : Inv X pins σ Hi { s' with heap := h' } := Ii.turnedL (t' := s'.toks) (ch := [D, kS]) (fun b o hb e => k b o (fun z => hb (by simp [z])) (fun z => hb (by simp [z])) e) (fun b hb => by
        rcases List.mem_cons.mp hb with rfl | hb
        · exact fDi
        · rw [List.mem_singleton.mp hb]; exact fKi)
      have hm : ∀ z ∈ Z', z ∈ Z := fun z hz => p.mem_iff.mp hz
      have rvo : Vals (Z'.map (·.v)) (Z'.map (·.u)) := by
        clear hD' o p
        induction Z' with
        | nil => exact .nil
        | cons z Z' ih => exact .cons (z6 z (hm z List.mem_cons_self)).2.1 (ih fun y hy => hm y (List.mem_cons_of_mem _ hy))
      have rp : RVs (zOf X) φi Hi (Z'.map (·.p)) (Z'.map (·.v)) := by
        clear hD' o p rvo
        induction Z' with
        | nil => exact rfl
        | cons z Z' ih => exact RVs.cons (z6 z (hm z List.mem_cons_self)).1 (ih fun y hy => hm y (List.mem_cons_of_mem _ hy))
      have es : Z'.map (·.p) = sortT ks l := by
        rw [← z1, ← z2]
        exact sortT_eq (by rw [z1]; exact nd) p o
      rw [es] at rp
      refine fin φi Hi _ (Z'.map (·.v)) (inv_adopt I4 fDi ⟨?_, Z'.map (fun z => z.u), c, rvo, (show h'.get? D = some (seqObj "list" (Z'.map (fun z => z.u)).toArray c) from hD')⟩) xi si fDi.1 rp
      rw [List.length_map, p.length_eq]
      omega
/-- sorted(xs, key=f) -/
theorem key_sorted {a : Addr} {l : List PV} {ks : List (Int × Str)} {xs : List V} {Q : VK}
    (L : LamI X C ek f c' qual params body scope p pm ctv) (hcalm : X.calm = true) (hr : Room 1 X.A.in1.in1) (I : Inv X pins σ H s) (hfp : (f, PySem.W.kla_obj "<lambda>" qual params body scope [] pm c' ctv) ∈ pins) (hc : H c' = some (LamX.CodeO c' qual)) (sm : Sim (zOf X) φ h H)
    (ha : SqL X.K H a xs ∨ SqT X.K H a xs) (hk : mapO zbk l = some ks) (nd : ks.Nodup) (hl : l.length ≤ 1000) (r : RVs (zOf X) φ H l xs)
    (fin : ∀ φ' H' D outV, Ext φ φ' H H' → Sim (zOf X) φ' h H' → H' D = none → RVs (zOf X) φ' H' (sortT ks l) outV → Q (.ref D) (upd H' D (.lst outV))) :
    wpAny (model X.prog X.w) X.A (PySem.call (.builtin "sorted") [.ref a] [(Str.ofString "key", .ref f)]) (EP X pins σ Q) X.xe s := by
  have hsl := sizeLine_eq
  obtain ⟨its, rv, hq, hz⟩ : ∃ its, Vals xs its ∧ (s.heap.IsList a its.toArray ∨ IsTup s.heap a its.toArray) ∧ its.length ≤ sizeLine := by
    rcases ha with ha | ha
    · obtain ⟨its, rv, hl, hz⟩ := I.list ha
      exact ⟨its, rv, .inl hl.isList, by rw [← rv.length]; exact hz⟩
    · obtain ⟨its, rv, hl, hz⟩ := I.tuple ha
      exact ⟨its, rv, .inr hl, by rw [← rv.length]; exact hz⟩
  refine call_function_entry_kw kind_sorted plain_sorted entry_sorted (ksk_s1 _ _) ?_
  unfold Builtin.«sorted»
  refine wpAny_bind (m := checkCount "sorted" 1 1 _) (wpAny_pure ?_)
  refine wpAny_bind (collect_seq hq ?_ hz)
  refine wpAny_bind (wpAny_newList ?_ hz)
  have hsz : ((s.heap.push (seqObj "list" #[] 0)).update s.heap.objs.size (Obj.mapSeq (· ++ its.toArray))).objs.size = s.heap.objs.size + 1 := by
    rw [Heap.size_update, size_push']
  have hoL : (((s.heap.push (seqObj "list" #[] 0)).update s.heap.objs.size (Obj.mapSeq (· ++ its.toArray))).push (seqObj "list" its.toArray 0)).get? (s.heap.objs.size + 1) = some (seqObj "list" its.toArray 0) := by
    rw [← hsz]; exact Heap.get?_push_size _ rfl
  have keep : ∀ b o, s.heap.get? b = some o → (((s.heap.push (seqObj "list" #[] 0)).update s.heap.objs.size (Obj.mapSeq (· ++ its.toArray))).push (seqObj "list" its.toArray 0)).get? b = some o := fun b o q => by
    have hlt : b < s.heap.objs.size := Heap.lt_size q
    refine Heap.get?_push_of_some _ ?_
    rw [Heap.get?_update_ne _ _ _ _ (Nat.ne_of_lt hlt)]
    exact Heap.get?_push_of_some _ q
  show wpAny _ _ _ _ _ { s with heap := ((s.heap.push (seqObj "list" #[] 0)).update s.heap.objs.size (Obj.mapSeq (· ++ its.toArray))).push (seqObj "list" its.toArray 0) }
  rw [hsz]
  generalize hh1 : (((s.heap.push (seqObj "list" #[] 0)).update s.heap.objs.size (Obj.mapSeq (· ++ its.toArray))).push (seqObj "list" its.toArray 0)) = h1 at hoL keep ⊢
  generalize hD0 : s.heap.objs.size + 1 = D at hoL ⊢
  have I1 : Inv X pins σ H { s with heap := h1 } := I.kept (t' := s.toks) keep
  have fD : FpOk X pins H D := I.fpOk (by omega) (I.hok.fresh (by omega))
  refine wpAny_bind (wpAny_holding (wpAny_call_entry_kw slot_list_sort ⟨_, hoL, rfl⟩ entry_list_sort ?body (ksk_l1 _ _)))
  case body =>
    show wpAny (model X.prog X.w) X.A.in1.in1 (Builtin.«list.sort» ⟨[.ref D], [(Str.ofString "key", .ref f)]⟩) _ _ _
    rw [ksk_t1]
    unfold ksk_tree
    refine wpAny_bind (listItems_at hoL rfl ?_)
    refine wpAny_bind (listUpdate_at hoL rfl ?_ (by rw [List.size_toArray]; exact hz) (Nat.zero_le _))
    have s1 := Heap.SameBut.update h1 D (Obj.mapSeq fun _ => (#[] : Array Value))
    have ho1 := get?_update_seq hoL fun _ => (#[] : Array Value)
    generalize hg1 : h1.update D (Obj.mapSeq fun _ => (#[] : Array Value)) = g1 at s1 ho1 ⊢
    refine wpAny_bind (seqEpoch_at ho1 rfl ?_)
    refine wpAny_bind (wpAny_newTuple ?_ (by simpa using hz))
    refine wpAny_bind (wpAny_newList ?_ (Nat.zero_le _))
    refine wpAny_holding ?_
    have J1 : Inv X pins σ H { s with heap := g1 } := I1.turned (t' := s.toks) (fun b o hb e => (s1.2 b hb).trans e) fD.1 fD.2.1 fD.2.2.2.1 fD.2.2.2.2.1 fD.2.2.2.2.2
    have J2 : Inv X pins σ H { s with heap := g1.push (seqObj "tuple" its.toArray.toList.toArray 0) } := J1.kept (t' := s.toks) fun b u e => Heap.get?_push_of_some _ e
    have fK : FpOk X pins H (g1.push (seqObj "tuple" its.toArray.toList.toArray 0)).objs.size := J2.fpOk (Nat.le_refl _) (J2.hok.fresh (Nat.le_refl _))
    have J3 : Inv X pins σ H { s with heap := (g1.push (seqObj "tuple" its.toArray.toList.toArray 0)).push (seqObj "list" #[] 0) } := J2.kept (t' := s.toks) fun b u e => Heap.get?_push_of_some _ e
    have hD3 := Heap.get?_push_of_some (seqObj "list" #[] 0) (Heap.get?_push_of_some (seqObj "tuple" its.toArray.toList.toArray 0) ho1)
    have hne : (g1.push (seqObj "tuple" its.toArray.toList.toArray 0)).objs.size ≠ D := fun z => by
      have := Heap.lt_size (Heap.get?_push_of_some (seqObj "tuple" its.toArray.toList.toArray 0) ho1)
      rw [z] at this
      exact Nat.lt_irrefl _ this
    refine key_rest (s := { s with heap := (g1.push (seqObj "tuple" its.toArray.toList.toArray 0)).push (seqObj "list" #[] 0) }) L hcalm hr J3 hfp hc sm hne fD fK hD3 (Heap.get?_push_size _ rfl) hk nd hl r rv fun φ' H' s' outV I' x' s2 nD ro => ?_
    exact ⟨_, rfl, wpAny_pure ⟨_, rfl, .ref D, _, I', rfl, fin φ' H' D outV x' s2 nD ro⟩⟩
end
end Sb
namespace Sb
open PySem PySem.Spec PyProof.Rows L2
section
variable {X : Cx} {W : WX} {C : Calls} {e : Expr} {ea : E} {k : Nat}
/-- a lambda's two forms -/
def ekNeg : E := .tup [.neg (.idx (.var 0) (.lit (.int 4))), .idx (.var 0) (.lit (.int 0))]
theorem sortKey_inv {it : PV} {k : Int × Str} (h : zbk it = some k) : ∃ l : List PV, it = .tup l ∧ l[4]? = some (.int k.1) ∧ l[0]? = some (.str k.2) := by
  unfold zbk at h
  split at h
  · rename_i l
    split at h
    · rename_i t n h1 h2
      cases h
      exact ⟨l, rfl, h1, h2⟩
    · cases h
  · cases h
theorem atI_of {l : List PV} {n : Nat} {v : PV} (e : l[n]? = some v) : L2.atI l (n : Int) = some v := by
  unfold L2.atI L2.ixN
  have := (List.getElem?_eq_some_iff.mp e).1
  rw [if_pos (by omega), if_pos (by omega)]
  simpa using e
theorem ev_neg (it : PV) (k : Int × Str) (hh : PH) (h : zbk it = some k) : evG C ekNeg false [some it] hh = .ok (keyTup k) hh := by
  obtain ⟨l, rfl, h4, h0⟩ := sortKey_inv h
  have a4 := atI_of h4
  have a0 := atI_of h0
  have i4 : zcc (.tup l) (.int 4) hh = .ok (.int k.1) hh := by
    show ofO (L2.atI l 4) hh = _
    rw [show ((4 : Nat) : Int) = 4 from rfl] at a4
    rw [a4]
    rfl
  have i0 : zcc (.tup l) (.int 0) hh = .ok (.str k.2) hh := by
    show ofO (L2.atI l 0) hh = _
    rw [show ((0 : Nat) : Int) = 0 from rfl] at a0
    rw [a0]
    rfl
  show (evGs C [.neg (.idx (.var 0) (.lit (.int 4))), .idx (.var 0) (.lit (.int 0))] [some (.tup l)] hh).bind (fun l h1 => tupO l h1) = _
  show ((((zcc (.tup l) (.int 4) hh).bind fun x h1 => (match x with | .int i => R.ok (PV.int (-i)) h1 | _ => .no)).bind fun x h1 => ((zcc (.tup l) (.int 0) h1).bind fun x h1 => R.ok [x] h1).bind fun l h2 => R.ok (x :: l) h2).bind fun l h1 => tupO l h1) = _
  rw [i4]
  show (((zcc (.tup l) (.int 0) hh).bind fun x h1 => R.ok [x] h1).bind fun l h2 => R.ok (PV.int (-k.1) :: l) h2).bind (fun l h1 => tupO l h1) = _
  rw [i0]
  rfl
/-- what a def that makes such a lambda knows: its code object, its table -/
structure TbI (X : Cx) (c P : Addr) : Prop where
  TB : LamX.TabB X.base X.mg c P
  code : X.env.code = .ref c
  mem : (P, X.env.qual ++ "<lambda>") ∈ tabsOf X.K
  uniq : ∀ q ∈ tabsOf X.K, q.1 = P → q.2 = X.env.qual ++ "<lambda>"
theorem je_srt {ek : E} {c P : Addr} {params : Arguments} {body : Expr} {scope : Scope} {lpos kpos p pos : Pos} {q : Str} (T : TbI X c P) (hcalm : X.calm = true) (hr : Room (2 * k + 4) X.A) (hm : X.mg "sorted" = none) (he : JE X W C e ea)
    (S : FnScope [q] [q] scope) (hbind : ∀ (qual : Str) (pm cv ctv u : Value), bindArgs (PySem.W.kla_fn "<lambda>" qual params body scope [] pm cv ctv) ⟨[u], []⟩ = pure [(q, u)])
    (hje : ∀ (f c' : Addr) (A : Around) (outer : List PySem.Env) (s : Shared) (H : Hp), Room 0 (A.deeper (envOfC (X.env.qual ++ "<lambda>") scope s.heap.objs.size f (.ref c'))) → JE (cxOf (L2N.CX X.prog X.w) X.prog X.w X.K X.mg X.base [q] (X.env.qual ++ "<lambda>") scope f (.ref c') A outer s H (fun _ _ _ => False)) W0 C body ek)
    (hev : ∀ (item : PV) (k : Int × Str) (hh : PH), zbk item = some k → evG C ek false [some item] hh = .ok (keyTup k) hh)
    (hdef : defaultsOf params X.env = ([], []) := by rfl) (hcl : cloFrom X.env.cells scope.names [] = [] := by rfl) (hg : Gl X "sorted" := by rfl)
    (hall : (backToKw pos (keywordEach [⟨some "key", .Lambda params body scope lpos, kpos⟩] X.env)).all (·.1.isSome) = true := by rfl) (hnone : (backToKw pos (keywordEach [⟨some "key", .Lambda params body scope lpos, kpos⟩] X.env)).any (·.1.isNone) = false := by rfl)
    (hks : (backToKw pos (keywordEach [⟨some "key", .Lambda params body scope lpos, kpos⟩] X.env)).filterMap (·.1) = [Str.ofString "key"] := by rfl)
    (hae : backTo pos (starEach [e] X.env) = (false, eval e X.env) :: backTo pos (starEach [] X.env) := by rfl) (hpl : (backTo pos (starEach [e] X.env)).any (·.1) = false := by rfl) (hs : starEach [e] X.env = (false, eval e X.env) :: starEach [] X.env := by rfl) :
    JE X W C (.Call (.Name "sorted" p) [e] [⟨some "key", .Lambda params body scope lpos, kpos⟩] pos) (.srt ea) := by
  refine ⟨fun pins s σ H Q I t => ?_⟩
  obtain ⟨ρ, φ, h, sm, re, o⟩ := t
  have o' : Out (zOf X) X.mg (RV (zOf X)) φ H (atS W σ) Q ((evG C ea false ρ h).bind fun x h1 => srtop x h1) := o
  have hr1 : Room 1 X.A.in1.in1 := (hr.mono (by omega : 3 ≤ 2 * k + 4)).in1.in1
  refine wpAny_Call_Name_kw (ld_blt I hg hm (show bootBuiltins "sorted" = some (.builtin "sorted") by decide +kernel) ?_ (by decide) (by decide))
  refine PyProof.Rows.callWith_kw (thn ((pa_cons he pa_nil hs).run pos pins s σ H (fun vs H1 => ∃ x, vs = [x] ∧ ∃ φ1 va h1, Ext φ φ1 H H1 ∧ Sim (zOf X) φ1 h1 H1 ∧ RV (zOf X) φ1 H1 va x ∧ Out (zOf X) X.mg (RV (zOf X)) φ1 H1 (atS W σ) Q (srtop va h1)) I
    ⟨ρ, φ, h, sm, re, (Out.bind (rel2 := RV (zOf X)) o').imp fun x H1 z => ⟨x, rfl, z⟩⟩) fun us s1 ⟨vs, H1, I1, r1, q1⟩ => ?_) hae hpl hall hnone
  obtain ⟨x, ev, φ1, va, h1, x1, sm1, ra, o1⟩ := q1
  subst ev
  obtain ⟨u, eu, ru⟩ := vals1' r1
  subst eu
  show wpAny _ _ (evalAll [(do let v ← eval (.Lambda params body scope lpos) X.env; standAt pos; pure v)]) _ _ s1
  refine wpAny_evalAll_cons (wpAny_bind (LamX.lam_make2 I1 T.TB T.code T.mem T.uniq sm1.tb hdef (fun y hy ef => absurd ef (S.nofree y hy)) fun f c' pm ctv H2 s2 I2 eN tb hf hfn hfr hco => wpAny_bind (wpAny_standAt (wpAny_pure (wpAny_evalAll_nil ?_)))))
  rw [hks]
  show wpAny _ _ (PySem.call (.builtin "sorted") [u] [(Str.ofString "key", .ref f)]) _ _ s2
  rw [hcl] at hf
  have sm2 := sm1.tabs eN tb
  have ra2 := ra.mono (Ext.tabs (φ := φ1) eN)
  have x2 : Ext φ1 φ1 H1 H2 := Ext.tabs eN
  unfold srtop at o1
  split at o1
  · rename_i l el
    split at o1
    · rename_i ks ek2
      split at o1
      · rename_i hd
        obtain ⟨hd1, hd2⟩ := Bool.and_eq_true_iff.mp hd
        obtain ⟨a, xs, ex, hq, rl⟩ := sm2.seqV ra2 el
        subst ex
        obtain rfl : u = Value.ref a := ru
        have hL : f ≠ X.env.locals := fun z => by
          obtain ⟨m, ⟨oo, es, ep, ho, hd, _⟩, _⟩ := I2.loc
          rw [z, ho] at hf
          cases hf
          cases hd
        have hF : f ∉ X.fs := fun z => hfr (by
          rcases I2.ok.stk with e | ⟨e, _⟩
          · rw [e]; exact z
          · rw [e]
            unfold frs
            rw [List.filterMap_cons]
            split
            · exact z
            · exact List.mem_cons_of_mem _ z)
        have Ip : Inv X (pins ++ [(f, PySem.W.kla_obj "<lambda>" (X.env.qual ++ "<lambda>") params body scope [] pm c' ctv)]) σ H2 s2 := I2.pins_of fun y hy => by
          rcases List.mem_append.mp hy with hy | hy
          · exact I2.pin y (List.mem_append_right _ hy)
          · rw [List.mem_singleton.mp hy]
            exact ⟨hf, hfn, hL, hF, fun v z => by cases z⟩
        have L : LamI X C ek f c' (X.env.qual ++ "<lambda>") params body scope q pm ctv := ⟨S, fun u => hbind _ _ _ _ u, fun A outer s H hr => hje f c' A outer s H hr, hev⟩
        have key := key_sorted (Q := Q) L hcalm hr1 Ip (List.mem_append_right _ (by simp)) hco sm2 hq ek2 (of_decide_eq_true hd1) (of_decide_eq_true hd2) rl fun φ' H' D outV xx ss nD ro => by
          refine o1 (φ' ++ [D]) _ (.ref D) ((x2.trans xx).trans (Ext.push nD)) (ss.push nD ro) ⟨D, rfl, ?_⟩
          rw [← ss.len, List.getElem?_append_right (Nat.le_refl _), Nat.sub_self]
          rfl
        exact thn key fun v s3 ⟨w, H3, I3, r3, q3⟩ => ⟨w, H3, I3.unpinned, r3, q3⟩
      · exact o1.elim
    · exact o1.elim
  · exact o1.elim
theorem je_srtNeg {c P : Addr} {params : Arguments} {scope : Scope} {lpos kpos p pos p1 p2 p3 p4 p5 p6 p7 p8 : Pos} {j1 j2 kk : Nat} {q : Str} (T : TbI X c P) (hcalm : X.calm = true) (hr : Room (2 * k + 4) X.A) (hm : X.mg "sorted" = none) (he : JE X W C e ea)
    (S : FnScope [q] [q] scope) (hq : scope.names.lookup q = some .local) (hqd : (q == ("__debug__" : Str)) = false) (hqc : (q == ("__classdict__" : Str)) = false)
    (hbind : ∀ (qual : Str) (pm cv ctv u : Value), bindArgs (PySem.W.kla_fn "<lambda>" qual params (.Tuple [.UnaryOp .USub (.Subscript (.Name q p1) (.Constant (.int 4) j1 p2) p3) p4, .Subscript (.Name q p5) (.Constant (.int 0) j2 p6) p7] kk p8) scope [] pm cv ctv) ⟨[u], []⟩ = pure [(q, u)])
    (hdef : defaultsOf params X.env = ([], []) := by rfl) (hcl : cloFrom X.env.cells scope.names [] = [] := by rfl) (hg : Gl X "sorted" := by rfl)
    (hs : starEach [e] X.env = (false, eval e X.env) :: starEach [] X.env := by rfl) :
    JE X W C (.Call (.Name "sorted" p) [e] [⟨some "key", .Lambda params (.Tuple [.UnaryOp .USub (.Subscript (.Name q p1) (.Constant (.int 4) j1 p2) p3) p4, .Subscript (.Name q p5) (.Constant (.int 0) j2 p6) p7] kk p8) scope lpos, kpos⟩] pos) (.srt ea) := by
  refine je_srt (ek := ekNeg) T hcalm hr hm he S hbind (fun f c' A outer s H hr0 => ?_) ev_neg hdef hcl hg rfl rfl rfl (by rw [hs]; rfl) (by rw [hs]; rfl) hs
  have hu : (A.deeper (envOfC (X.env.qual ++ "<lambda>") scope s.heap.objs.size f (.ref c'))).units + 66 < cLine := hr0.u66
  have v0 : ∀ p, JE (cxOf (L2N.CX X.prog X.w) X.prog X.w X.K X.mg X.base [q] (X.env.qual ++ "<lambda>") scope f (.ref c') A outer s H (fun _ _ _ => False)) W0 C (.Name q p) (.var 0) := fun p => zab 0 rfl (.inl hq) hqd hqc
  exact zca (zaa (je_neg (zal hu (v0 _) zaf)) (zaa (zal hu (v0 _) zaf) zae))
end
end Sb
namespace Sb
open PySem PySem.Spec PyProof.Rows L2
/-- nothing but tables and locked lists -/
def OnlyT (H : Hp) : Prop := ∀ b, H b = none ∨ (∃ ps, H b = some (.tbl ps)) ∨ ∃ o xs, H b = some (.frz o (.lst xs))
section
variable {P : Program} {w : World} {K : PySem.W.Frag} {mg mb : Str → Option Value} {CX : CXT} {k : Nat} {fa a : Addr} {cs : List (Addr × Addr)} {fd : FuncData} {x : Str} {sp : Sp} {s₁ : Shared} {vs : List Value} {ns : List Int}
theorem law_callT (KX : K.In s₁.heap) (hns : s₁.heap.Ns mainGlobals mg) (hb : s₁.heap.Ns builtinsNs mb) (hbb : ∀ x : Str, x ≠ "__name__" → mb x = bootBuiltins x) (hlim : s₁.heap.NoLimit) (hg : s₁.gens = #[])
    (hT : ∀ p ∈ cs, s₁.heap.get? p.2 = some (PySem.W.tabObj #[])) (nT : ∀ p ∈ cs, K.lookup p.2 = none) (cd : ∀ p ∈ cs, PySem.W.CodeHd s₁.heap p.1 p.2)
    (hbm : ∃ (bm : Addr) (ob : Obj), mg "__builtins__" = some (.ref bm) ∧ bm ≠ builtinsNs ∧ s₁.heap.get? bm = some ob ∧ ob.cls = .type "module" ∧ ob.dict = some builtinsNs ∧ ob.data = .plain)
    (ha : s₁.heap.get? a = some { cls := .type "list", data := .seq vs.toArray }) (hi : IntsAre vs ns) (hl : ns.length ≤ sizeLine) (hr : Room k callerA)
    (F : ∀ base : Heap, K.In base → base.Ns mainGlobals mg → (∀ p ∈ cs, LamX.TabB base mg p.1 p.2) → FnOk P w K mg base CX k fa fd [x] sp) (hbind : ∀ (s : Shared) (u : Value), BindsTo s fd ⟨[u], []⟩ [(x, u)])
    (hsp : ∀ H : Hp, OnlyT H → (∀ p ∈ cs, H p.2 = some (.tbl #[])) → SqL K H a (ns.map V.int) → sp [.ref a] H (fun v _ => v = .bl true) fun _ _ _ => False)
    (hCX : ∀ H e s', CX [] H s₁ (fun _ _ _ => False) e s' → False) :
    codeAny (model P w) callerA (.call (.ref fa) ⟨[.ref a], []⟩) (fun r s' => r = .ok (.ret (.bool true)) ∧ OldK s₁.heap s'.heap ∧ s'.os = s₁.os ∧ AllBare s'.gens) s₁ := by
  have rv := vals_ints hi
  have lenV := hi.length
  obtain ⟨T, eT⟩ : ∃ T, T = cs.map (·.2) := ⟨_, rfl⟩
  have memT : ∀ p ∈ cs, p.2 ∈ T := fun p hp => by rw [eT]; exact List.mem_map.mpr ⟨p, hp, rfl⟩
  have ofT : ∀ b ∈ T, ∃ p ∈ cs, p.2 = b := fun b hb => by
    rw [eT] at hb
    exact List.mem_map.mp hb
  have isT : ∀ b ∈ T, s₁.heap.get? b = some (PySem.W.tabObj #[]) := fun b hb => by
    obtain ⟨p, hp, rfl⟩ := ofT b hb
    exact hT p hp
  have aT : a ∉ T := fun z => by
    have q := isT a z
    rw [ha] at q
    cases q
  obtain ⟨H, hH⟩ : ∃ H : Hp, H = fun b => if b ∈ T then some (.tbl #[]) else if b = a ∧ K.lookup a = none then some (.frz { cls := .type "list", data := .seq vs.toArray } (.lst (ns.map V.int))) else none := ⟨_, rfl⟩
  have hHT : ∀ b ∈ T, H b = some (.tbl #[]) := fun b hb => by rw [hH]; exact if_pos hb
  have hHa : K.lookup a = none → H a = some (.frz { cls := .type "list", data := .seq vs.toArray } (.lst (ns.map V.int))) := fun e => by
    rw [hH]
    show (if a ∈ T then _ else _) = _
    rw [if_neg aT, if_pos ⟨rfl, e⟩]
  have hHn : ∀ b, b ∉ T → ¬ (b = a ∧ K.lookup a = none) → H b = none := fun b h1 h2 => by
    rw [hH]
    show (if b ∈ T then _ else _) = _
    rw [if_neg h1, if_neg h2]
  have hO : OnlyT H := fun b => by
    by_cases h1 : b ∈ T
    · exact .inr (.inl ⟨_, hHT b h1⟩)
    · by_cases h2 : b = a ∧ K.lookup a = none
      · exact .inr (.inr ⟨_, _, by rw [h2.1]; exact hHa h2.2⟩)
      · exact .inl (hHn b h1 h2)
  have hok : HOk P w H s₁.heap := fun b u e => by
    by_cases h1 : b ∈ T
    · rw [hHT b h1] at e
      cases e
      exact isT b h1
    · by_cases h2 : b = a ∧ K.lookup a = none
      · obtain ⟨rfl, h2⟩ := h2
        rw [hHa h2] at e
        cases e
        exact ⟨ha, by rw [List.length_map]; exact hl, vs, _, rv, ha⟩
      · rw [hHn b h1 h2] at e
        cases e
  have hS : SqL K H a (ns.map V.int) := by
    cases hk : K.lookup a with
    | none => exact .inl (.inr ⟨_, hHa hk⟩)
    | some o =>
      have e := KX a o hk
      rw [ha] at e
      cases e
      exact .inr ⟨_, vs.toArray, _, hk, rfl, rfl, rfl, by rw [List.size_toArray, lenV]; exact hl, by simpa using rv⟩
  have free : ∀ {b : Addr} {o : Obj}, s₁.heap.get? b = some o → (∀ vs n, o.data ≠ .seq vs n) → o.data ≠ .fields #[] → H b = none := fun {b o} e n1 n2 => by
    refine hHn b (fun z => ?_) fun z => ?_
    · rw [isT b z] at e
      cases e
      exact n2 rfl
    · rw [z.1, ha] at e
      cases e
      exact n1 _ _ rfl
  have freeD : ∀ {b : Addr} {o : Obj} {es : Array DictEntry} {ep : Nat}, s₁.heap.get? b = some o → o.data = .dict es ep → H b = none := fun {b o es ep} e d => by
    refine free e (fun vs n z => ?_) fun z => ?_
    · rw [d] at z; cases z
    · rw [d] at z; cases z
  have nsK : ∀ {b : Addr} {m : Str → Option Value}, s₁.heap.Ns b m → (hidT s₁.heap H).Ns b m := fun {b m} ⟨o, es, ep, e, d, r⟩ => ⟨o, es, ep, hidT_get e (freeD e d), d, r⟩
  have hKb : K.In (hidT s₁.heap H) := fun b o e => hidT_get (KX b o e) (hHn b (fun z => by
    obtain ⟨p, hp, rfl⟩ := ofT b z
    rw [nT p hp] at e
    cases e) fun z => by
    rw [z.1, z.2] at e
    cases e)
  have hM : L2.Mod K mg (hidT s₁.heap H) := ⟨hKb, nsK hns, ⟨mb, nsK hb, hbb⟩, let ⟨mc, h1, h2⟩ := hlim; ⟨mc, nsK h1, h2⟩⟩
  have TB : ∀ p ∈ cs, LamX.TabB (hidT s₁.heap H) mg p.1 p.2 := fun p hp => by
    have hTp := hT p hp
    obtain ⟨go, ges, gep, ge, gd, _⟩ := id hns
    refine ⟨?_, ?_, fun z => ?_⟩
    · obtain ⟨o, us, file, tf, flags, tg, inF, text, tt, c1, c2, c3, c4, c5⟩ := cd p hp
      refine ⟨o, us, file, tf, flags, tg, inF, text, tt, hidT_get c1 (free c1 (fun vs n z => ?_) fun z => ?_), c2, c3, c4, c5⟩
      · rw [c3] at z; cases z
      · rw [c3] at z
        cases z
        simp at c4
    · obtain ⟨bm, ob, b1, b2, b3, b4, b5, b6⟩ := hbm
      refine ⟨bm, ob, b1, b2, fun q => ?_, fun q => ?_, hidT_get b3 (free b3 (fun vs n z => ?_) fun z => ?_), b4, b5, b6⟩
      · rw [q, ge] at b3
        cases b3
        rw [gd] at b6
        cases b6
      · rw [q, hTp] at b3
        cases b3
        cases b6
      · rw [b6] at z; cases z
      · rw [b6] at z; cases z
    · rw [z, hTp] at ge
      cases ge
      cases gd
  have e0 : Env0 P w K mg (hidT s₁.heap H) callerA [] s₁ H := ⟨rfl, hM, fun b o e => of_hidT e, Nat.le_of_eq (hidT_size _ _), trivial, fun b hb => absurd (show b ∈ ([] : List Addr) from hb) (by simp), hok, .of_eq hg⟩
  refine codeAny_mono ((F _ hKb (nsK hns) TB).run callerA [] s₁ H ⟨[.ref a], []⟩ [.ref a] [.ref a] _ _ hr e0 (hbind s₁ (.ref a)) (.cons rfl .nil) (hsp H hO (fun p hp => hHT _ (memT p hp)) hS)) fun r s' h => ?_
  cases r with
  | error e => exact (hCX H e s' h).elim
  | ok fl =>
    cases fl with
    | next => exact False.elim h
    | brk => exact False.elim h
    | cont => exact False.elim h
    | ret u =>
      obtain ⟨v, H', os, bare, un, hok', r', q⟩ := h
      have q' : v = .bl true := q
      subst q'
      obtain rfl : u = Value.bool true := r'
      have same : ∀ b o, b ∉ T → s₁.heap.get? b = some o → s'.heap.get? b = some o := fun b o nb e => by
        rcases hO b with z | ⟨ps, z⟩ | ⟨ob, xs, z⟩
        · exact un.keep b o e z (fun y => nomatch (show b ∈ ([] : List Addr) from y)) (fun y => nomatch y)
        · exfalso
          by_cases h2 : b = a ∧ K.lookup a = none
          · rw [h2.1, hHa h2.2] at z
            cases z
          · rw [hHn b nb h2] at z
            cases z
        · obtain ⟨e1, _⟩ := hok b _ z
          obtain ⟨e2, _⟩ := hok' b _ (un.frzs b ob _ z)
          rw [e] at e1
          cases e1
          exact e2
      have grown : ∀ p ∈ cs, ∃ more : Array Value, s'.heap.get? p.2 = some (PySem.W.tabObj more) := fun p hp => by
        obtain ⟨more, z⟩ := un.tbls p.2 #[] (hHT _ (memT p hp))
        exact ⟨_, hok' p.2 _ z⟩
      refine ⟨rfl, ⟨fun b o e => ?_, fun b o e => ?_⟩, os, bare⟩
      · by_cases nb : b ∈ T
        · obtain ⟨p, hp, rfl⟩ := ofT b nb
          obtain ⟨more, hm⟩ := grown p hp
          rw [hT p hp] at e
          cases e
          exact .inr (.inl ⟨((cd p hp).tab (hT p hp)).isCodeTable, rfl, #[], more, rfl, by rw [Array.empty_append]; exact hm⟩)
        · exact .inl (same b o nb e)
      · by_cases nb : b ∈ T
        · obtain ⟨p, hp, rfl⟩ := ofT b nb
          obtain ⟨more, hm⟩ := grown p hp
          exact ⟨_, hm⟩
        · exact ⟨o, same b o nb e⟩
end
/-- a law's end: F gives the written part, the tables and the law's promise -/
theorem walk_ofT {l : PySem.W.OpenLaw} {n k : Nat} {q : Program} {loose : List Str} {XP : (Str → Option Value) → Heap → Prop} {YP : World → Heap → Prop} {d : DefRec} {x : Str}
    (hn : l.most = some n) (hn2 : n ≤ sizeLine) (hdf : d.params.defaults = []) (hr : Room k callerA)
    (F : ∀ (w : World) (mg mb : Str → Option Value) (mean : ExcName → Option Value) (fa : Addr) (h : Heap), YP w h → PyProof.Rows.Top q (PySem.W.looseW q loose) mean mg mb h → mg d.name = some (.ref fa) →
      ∃ (K : PySem.W.Frag) (fd : FuncData) (sp : Sp) (cs : List (Addr × Addr)), K.In h ∧ (∀ p ∈ cs, h.get? p.2 = some (PySem.W.tabObj #[])) ∧ (∀ p ∈ cs, K.lookup p.2 = none) ∧ (∀ p ∈ cs, PySem.W.CodeHd h p.1 p.2) ∧ (∀ (s : Shared) (u : Value), BindsTo s fd ⟨[u], []⟩ [(x, u)]) ∧
        (∀ (H : Hp) (a : Addr) (ns : List Int), ns.length ≤ n → OnlyT H → (∀ p ∈ cs, H p.2 = some (.tbl #[])) → SqL K H a (ns.map V.int) → sp [.ref a] H (fun v _ => v = .bl true) fun _ _ _ => False) ∧
        ∀ base : Heap, K.In base → base.Ns mainGlobals mg → (∀ p ∈ cs, LamX.TabB base mg p.1 p.2) → FnOk l.prog w K mg base (L2N.CX l.prog w) k fa fd [x] sp) :
    PySem.W.WalkO q loose XP YP l.row.toRowW d [] (fun f vs => PySem.call f vs) := by
  refine Att.attach_call hn hdf fun w s₀ s₁ mg mb fa o pm cd doc a vs ns G Y ho hd hcd hmg hobj hints hlen hg => ?_
  obtain ⟨K, fd, sp, cs, KX, hT, nT, cd', hb, hsp, hF⟩ := F w mg mb _ fa _ Y G.T hmg
  exact law_callT KX G.T.g G.T.b G.T.builtins G.T.nolimit hg hT nT cd' G.T.bmain hobj hints (Nat.le_trans hlen hn2) hr hF hb (fun H hO hH hS => hsp H a ns hlen hO hH hS) fun H e s' => cx_false
/-- the tables stand apart and are not of the written part; the names' tables are there -/
theorem tabsOf_mem {K : PySem.W.Frag} {p : Addr × Str} (h : p ∈ tabsOf K) : ∃ x ∈ lamNames, ∃ c, PySem.W.tabIn K x = some (c, p.1) ∧ p.2 = x ++ ".<locals>." ++ "<lambda>" := by
  obtain ⟨x, hx, e⟩ := List.mem_filterMap.mp h
  obtain ⟨q, e1, e2⟩ := Option.map_eq_some_iff.mp e
  subst e2
  exact ⟨x, hx, q.1, e1, rfl⟩
theorem tabCs_tab {K : PySem.W.Frag} {p : Addr × Addr} (h : p ∈ tabCs K) : ∃ x ∈ lamNames, PySem.W.tabIn K x = some p := List.mem_filterMap.mp h
theorem tabCs_mem {K : PySem.W.Frag} {x : Str} {p : Addr × Addr} (hx : x ∈ lamNames) (e : PySem.W.tabIn K x = some p) : p ∈ tabCs K ∧ (p.2, x ++ ".<locals>." ++ "<lambda>") ∈ tabsOf K :=
  ⟨List.mem_filterMap.mpr ⟨x, hx, e⟩, List.mem_filterMap.mpr ⟨x, hx, by rw [e]; rfl⟩⟩
theorem nodup_fst {α β : Type} : ∀ {l : List (α × β)}, (l.map (·.1)).Nodup → ∀ {p q : α × β}, p ∈ l → q ∈ l → p.1 = q.1 → p = q
  | [], _, _, _, hp, _, _ => by cases hp
  | y :: l, nd, p, q, hp, hq, e => by
    rw [List.map_cons, List.nodup_cons] at nd
    rcases List.mem_cons.mp hp with h1 | h1 <;> rcases List.mem_cons.mp hq with h2 | h2
    · rw [h1, h2]
    · exact (nd.1 (List.mem_map.mpr ⟨q, h2, by rw [← e, h1]⟩)).elim
    · exact (nd.1 (List.mem_map.mpr ⟨p, h1, by rw [e, h2]⟩)).elim
    · exact nodup_fst nd.2 h1 h2 e
section
variable {K : PySem.W.Frag} {xs : List Str}
theorem tabB_parts (b : tabB K xs = true) : ((tabsOf K).map (·.1)).Nodup ∧ (∀ p ∈ tabsOf K, K.lookup p.1 = none) ∧ (∀ x ∈ xs, ∃ p, PySem.W.tabIn K x = some p) ∧ ∀ x ∈ lamNames, x ∈ xs ∨ PySem.W.tabIn K x = none := by
  unfold tabB at b
  simp only [Bool.and_eq_true, decide_eq_true_eq, List.all_eq_true] at b
  obtain ⟨⟨⟨b1, b2⟩, b3⟩, b4⟩ := b
  refine ⟨b1, fun p hp => Option.isNone_iff_eq_none.mp (b2 p hp), fun x hx => Option.isSome_iff_exists.mp (b3 x hx), fun x hx => ?_⟩
  rcases Bool.or_eq_true_iff.mp (b4 x hx) with z | z
  · exact .inl (List.contains_iff_mem.mp z)
  · exact .inr (Option.isNone_iff_eq_none.mp z)
theorem tabB_none (b : tabB K xs = true) : ∀ p ∈ tabCs K, K.lookup p.2 = none := fun p hp => by
  obtain ⟨x, hx, e⟩ := tabCs_tab hp
  exact (tabB_parts b).2.1 _ (tabCs_mem hx e).2
/-- a def's lambda in its context -/
theorem tbI_of {P : Program} {w : World} {mg : Str → Option Value} {base h : Heap} {x : Str} {params : Arguments} {body : List Stmt} {scope : Scope} {dvs : List V} {kws : List (Str × V)} {fd : FuncData} {N : List Str} {cdv : Value} {A : Around} {outer : List PySem.Env} {s : Shared} {H : Hp} {E : XK} {CX : CXT}
    (b : tabB K xs = true) (hx : x ∈ xs) (hxl : x ∈ lamNames) (F : FunD K x x params body scope dvs kws (He.ga K x) fd) (g : (He.Fa.glo x).ok K = true) (hcd : fd.code = cdv) (TB : ∀ p ∈ tabCs K, LamX.TabB base mg p.1 p.2) :
    ∃ c P', TbI (cxOf CX P w K mg base N x scope (He.ga K x) cdv A outer s H E) c P' := by
  obtain ⟨b1, b2, b3, _⟩ := tabB_parts b
  obtain ⟨⟨c, P'⟩, e⟩ := b3 x hx
  obtain ⟨m1, m2⟩ := tabCs_mem hxl e
  refine ⟨c, P', TB _ m1, ?_, m2, fun q hq eq => ?_⟩
  · have gg := He.eqO_ok g
    obtain ⟨oc, od, dV, kV, doc, pm, an, cd2, ct, osl, rfl, lk, _⟩ := F.ex
    unfold PySem.W.tabIn at e
    rw [gg] at e
    simp only [lk] at e
    show cdv = .ref c
    rw [← hcd]
    split at e
    · rename_i c2 hc2
      split at e
      · split at e
        · cases e
          first
            | exact hc2
            | rfl
        · cases e
      · cases e
    · cases e
  · exact congrArg Prod.snd (nodup_fst b1 hq m2 eq)
end
theorem script_rvT {P : Program} {w : World} {K : PySem.W.Frag} {H : Hp} {a : Addr} {ns : List Int} (hO : OnlyT H) (hS : SqL K H a (ns.map V.int)) : RV ⟨K, [], P, w⟩ [] H (.cl (ns.map PV.int)) (.ref a) := by
  rcases hS with (h | ⟨o, h⟩) | h
  · rcases hO a with z | ⟨ps, z⟩ | ⟨o, xs, z⟩
    · rw [z] at h; cases h
    · rw [z] at h; cases h
    · rw [z] at h; cases h
  · exact ⟨a, _, rfl, .inl ⟨⟨o, h⟩, by simp⟩, ints_rv ns⟩
  · exact ⟨a, _, rfl, .inr h, ints_rv ns⟩
theorem law_endT {P : Program} {w : World} {K : PySem.W.Frag} {mg : Str → Option Value} {C : Calls} {fi : Nat} (hl : ∀ ns : List Int, ns.length ≤ 63 → ∃ h, C fi [.cl (ns.map PV.int)] [] = .ok (.bl true) h) (H : Hp) (a : Addr) (ns : List Int) (hn : ns.length ≤ 63) (hO : OnlyT H) (hT : ∀ p ∈ tabCs K, H p.2 = some (.tbl #[])) (hS : SqL K H a (ns.map V.int)) :
    spF ⟨K, [], P, w⟩ mg C fi 1 [.ref a] H (fun v _ => v = .bl true) fun _ _ _ => False := by
  obtain ⟨h, e⟩ := hl ns hn
  refine ⟨rfl, [], [], [.cl (ns.map PV.int)], ⟨rfl, List.nodup_nil, fun n o e => (by simp at e), fun p hp => ?_⟩, RVs.cons (script_rvT hO hS) RVs.nil, ?_⟩
  · obtain ⟨x, hx, c, e1, e2⟩ := tabsOf_mem hp
    exact LamX.TabS.nil (hT _ (tabCs_mem hx e1).1)
  · rw [e]
    intro φ' H' b x s r
    exact r
end Sb
namespace Sb
open PySem PySem.Spec PyProof.Rows L2
section
variable {K : ZZ} {φ φ' : List Addr} {H H' : Hp}
/-- a dict aside: it is written at, then taken in -/
theorem Kp.asideD {D : Addr} {ws ws' : List (Key × V)} (e : H D = some (.dK ws)) : Kp φ φ H (upd H D (.dK ws')) := ⟨fun _ _ q => q, fun a o f q n => ⟨by
  rw [upd_ne (fun z => by
    subst z
    rw [e] at q
    cases q
    cases f)]
  exact q, n⟩⟩
theorem Sim.asideD {h : PH} {D : Addr} {ws ws' : List (Key × V)} (s : Sim K φ h H) (e : H D = some (.dK ws)) (n : D ∉ φ) : Sim K φ h (upd H D (.dK ws')) := ⟨s.len, s.nd, fun m u q => by
  obtain ⟨a, ho, e1, e2, r⟩ := s.ob m u q
  refine ⟨a, ho, e1, ?_, r.monoK (Kp.asideD e)⟩
  rw [upd_ne (fun z => n (by rw [← z]; exact List.mem_of_getElem? e1))]
  exact e2, tabs_upd (dK_plain e) s.tb⟩
theorem Kp.adoptD {D : Addr} {ws : List (Key × V)} (e : H D = some (.dK ws)) : Kp φ (φ ++ [D]) H H := ⟨fun n a q => by
  rw [List.getElem?_append_left (List.getElem?_eq_some_iff.mp q).1]
  exact q, fun a o f q n => ⟨q, fun m => by
  rcases List.mem_append.mp m with z | z
  · exact n z
  · rw [List.mem_singleton.mp z, e] at q
    cases q
    cases f⟩⟩
theorem Sim.adoptD {h : PH} {D : Addr} {l : List (Key × PV)} {ws : List (Key × V)} (s : Sim K φ h H) (e : H D = some (.dK ws)) (n : D ∉ φ) (r : RD K φ H l ws) : Sim K (φ ++ [D]) (h ++ [.dct l]) H := by
  have x : Kp φ (φ ++ [D]) H H := Kp.adoptD e
  refine ⟨by rw [List.length_append, List.length_append, s.len]; rfl, ?_, fun m u q => ?_, s.tb⟩
  · rw [List.nodup_append]
    refine ⟨s.nd, by simp, fun a ha b hb => ?_⟩
    rw [List.mem_singleton.mp hb]
    intro z
    exact n (z ▸ ha)
  · by_cases hm : m < h.length
    · rw [List.getElem?_append_left hm] at q
      obtain ⟨a, ho, e1, e2, r'⟩ := s.ob m u q
      exact ⟨a, ho, x.pl m a e1, e2, r'.monoK x⟩
    · have em : m = h.length := by
        have := (List.getElem?_eq_some_iff.mp q).1
        rw [List.length_append] at this
        simp at this
        omega
      subst em
      rw [List.getElem?_append_right (Nat.le_refl _), Nat.sub_self] at q
      have eu : PO.dct l = u := Option.some.inj q
      subst eu
      refine ⟨D, .dK ws, ?_, e, ws, rfl, r.monoK x⟩
      rw [List.getElem?_append_right (by rw [s.len]; exact Nat.le_refl _), s.len, Nat.sub_self]
      rfl
theorem keyOf_rel {p : PV} {v : V} {k : Key} (r : RV K φ H p v) (e : zce p = some k) : v = kV k := by
  cases p with
  | int i =>
    have : v = .int i := r
    cases e
    rw [this]
    rfl
  | str x =>
    have : v = .str x := r
    cases e
    rw [this]
    rfl
  | _ => cases e
end
/-- one thing after another, where the answer is asked of an earlier state -/
theorem Out.bindAt {K : ZZ} {mg : Str → Option Value} {α β γ δ : Type} {rel : List Addr → Hp → α → β → Prop} {rel2 : List Addr → Hp → γ → δ → Prop} {φ0 φ : List Addr} {H0 H : Hp} {W : XK} {Q : β → Hp → Prop} {m : R γ} {f : γ → PH → R α} (x : Ext φ0 φ H0 H) (h : Out K mg rel φ0 H0 W Q (m.bind f)) :
    Out K mg rel2 φ H W (fun b H' => ∃ φ' a h1, Ext φ φ' H H' ∧ Sim K φ' h1 H' ∧ rel2 φ' H' a b ∧ Out K mg rel φ0 H0 W Q (f a h1)) m := by
  cases m with
  | ok a h1 => exact fun φ' H' b x s r => ⟨φ', a, h1, x, s, r, h⟩
  | ex e h1 => exact fun φ2 H2 c d y s r => (show Out K mg rel φ0 H0 W Q (.ex e h1) from h) φ2 H2 c d (x.trans y) s r
  | no => exact h
section
variable {X : Cx} {W : WX} {C : Calls} {pos : Pos}
theorem je_dct0 : JE X W C (.Dict [] [] pos) (.dct []) := zc3 pe_dnewK fun σ H Q ⟨ρ, φ, h, sm, re, o⟩ => by
  have o' : Out (zOf X) X.mg (RV (zOf X)) φ H (atS W σ) Q (allocD [] h) := o
  exact o'.allocD sm RD.nil
/-- {k: v} -/
theorem je_dct1 {a b : Expr} {ea eb : E} (ha : JE X W C a ea) (hb : JE X W C b eb) : JE X W C (.Dict [some a] [b] pos) (.dct [ea, eb]) := zc3 (pe_disp (pps_cons ha hb pps_nil) rfl rfl (by simp) (Nat.le_of_ble_eq_true rfl)) fun σ H Q ⟨ρ, φ, h, sm, re, o⟩ => by
  intro p hp
  have o' : Out (zOf X) X.mg (RV (zOf X)) φ H (atS W σ) Q ((evG C ea false ρ h).bind fun x h1 => (evG C eb false ρ h1).bind fun y h2 => match zce x with | some k => allocD (zbv [] [(k, y)]) h2 | none => .no) := by
    have e : evG C (.dct [ea, eb]) false ρ h = (evG C ea false ρ h).bind fun x h1 => (evG C eb false ρ h1).bind fun y h2 => match zce x with | some k => allocD (zbv [] [(k, y)]) h2 | none => .no := by
      have e0 : evG C (.dct [ea, eb]) false ρ h = (evGs C [ea, eb] ρ h).bind fun l h1 => match pairUp l with | some l => allocD (zbv [] l) h1 | none => .no := rfl
      have e1 : evGs C [ea, eb] ρ h = (evG C ea false ρ h).bind fun x h1 => ((evG C eb false ρ h1).bind fun y h2 => .ok [y] h2).bind fun l h2 => .ok (x :: l) h2 := rfl
      rw [e0, e1]
      simp only [R.bind_bind, R.bind_ok]
      congr 1
      funext x h1
      congr 1
      funext y h2
      unfold pairUp
      cases zce x <;> rfl
    rw [← e]
    exact o
  have x0 : Ext φ φ H (upd H p (.dK [])) := Ext.new hp
  refine ⟨ρ, φ, h, sm.new hp, re.mono x0, (Out.bindAt (rel2 := RV (zOf X)) x0 o').imp fun x H1 ⟨φ1, a1, h1, x1, s1, r1, o1⟩ => ?_⟩
  refine ⟨ρ, φ1, h1, s1, (re.mono x0).mono x1, (Out.bindAt (rel2 := RV (zOf X)) (x0.trans x1) o1).imp fun y H2 ⟨φ2, a2, h2, x2, s2, r2, o2⟩ => ?_⟩
  have nD0 : p ∉ φ := sm.out hp
  have hD1 : H1 p = some (.dK []) := x1.keep p _ upd_same nD0 (fun ps z => by cases z)
  have nD1 : p ∉ φ1 := fun z => by
    obtain ⟨ps, e⟩ := x1.fresh p z nD0 _ upd_same
    cases e
  have hD2 : H2 p = some (.dK []) := x2.keep p _ hD1 nD1 (fun ps z => by cases z)
  have nD2 : p ∉ φ2 := fun z => by
    obtain ⟨ps, e⟩ := x2.fresh p z nD1 _ hD1
    cases e
  cases ek : zce a1 with
  | none =>
    rw [ek] at o2
    exact (show False from o2).elim
  | some k =>
    rw [ek] at o2
    have ex := keyOf_rel (r1.mono x2) ek
    have o3 : Out (zOf X) X.mg (RV (zOf X)) φ H (atS W σ) Q (.ok (.ref h2.length) (h2 ++ [.dct (zbv [] [(k, a2)])])) := o2
    refine ⟨hD2, [(k, y)], by rw [ex]; rfl, Nat.le_of_ble_eq_true rfl, ?_⟩
    have rd : RD (zOf X) φ2 H2 (zbv [] [(k, a2)]) (mergeK [] [(k, y)]) := RD.merge (RD.cons r2 RD.nil) RD.nil
    have s3 : Sim (zOf X) φ2 h2 (upd H2 p (.dK (mergeK [] [(k, y)]))) := s2.asideD hD2 nD2
    refine o3 (φ2 ++ [p]) _ (.ref p) ((((x0.trans x1).trans x2).aside hp).adopt hp) (s3.adoptD upd_same nD2 (rd.monoK (Kp.asideD hD2))) ⟨p, rfl, ?_⟩
    rw [← s2.len, List.getElem?_append_right (Nat.le_refl _), Nat.sub_self]
    rfl
end
/-- the loop of a dict comprehension, as the layer reads it -/
theorem dcomp_red {K : ZZ} {mg : Str → Option Value} {W : WX} {C : Calls} {ke ve : E} {is : List Nat} {one : TgK} {k : ITK} {its : List E} {cond : Option E} {own : List Nat} (his : ∀ i ∈ is, i ∈ own) {σ : L2.St} {H : Hp} {Q : VK} (t : tE K mg W C (.dcomp ke ve is one k its cond own) σ H Q) :
    tDc (tI K mg W C k its) (gT K.K is one) (tCond K mg C cond) (tE K mg W0 C ke) (tE K mg W0 C ve) own σ H Q := by
  obtain ⟨ρ, φ, h, sm, re, o⟩ := t
  have o' : Out K mg (RV K) φ H (atS W σ) Q ((evI C k its ρ h).bind fun w h1 => (za5 w.2 (fun x => zbo (zbi ρ own) is one x) (fun ρ1 h2 => (evGc C cond ρ1 h2).calm) (fun ρ1 h2 => (evG C ke false ρ1 h2).calm) (fun ρ1 h2 => (evG C ve false ρ1 h2).calm) w.1 [] h1).bind fun l h2 => allocD l h2) := by
    have e : evG C (.dcomp ke ve is one k its cond own) false ρ h = (evI C k its ρ h).bind fun w h1 => (za5 w.2 (fun x => zbo (zbi ρ own) is one x) (fun ρ1 h2 => (evGc C cond ρ1 h2).calm) (fun ρ1 h2 => (evG C ke false ρ1 h2).calm) (fun ρ1 h2 => (evG C ve false ρ1 h2).calm) w.1 [] h1).bind fun l h2 => allocD l h2 := by
      unfold evI
      rw [R.bind_bind]
      show ((evGs C its ρ h).bind _) = _
      congr 1
      funext l h1
      cases zcm k l h1 with
      | none => rfl
      | some w => rfl
    rw [← e]
    exact o
  refine ⟨ρ, φ, h, sm, re, (Out.bind (rel2 := relW K) o').imp fun J H1 ⟨φ1, w, h1, x1, s1, wk, o1⟩ => ?_⟩
  obtain ⟨items, kp⟩ := w
  intro D hD
  have wk : WalkOk K J φ1 H1 items kp := wk
  have re1 := (re.mono x1).wipe own
  refine ⟨fun i m H2 => ∃ φ2 h2 acc ws, m = (items.drop i).length ∧ Ext φ1 φ2 H1 H2 ∧ Sim K φ2 h2 H2 ∧ D ∉ φ2 ∧ H2 D = some (.dK ws) ∧ RD K φ2 H2 acc ws ∧
    Out K mg (RV K) φ1 H1 (atS W σ) Q ((za5 kp (fun x => zbo (zbi ρ own) is one x) (fun ρ1 h2 => (evGc C cond ρ1 h2).calm) (fun ρ1 h2 => (evG C ke false ρ1 h2).calm) (fun ρ1 h2 => (evG C ve false ρ1 h2).calm) (items.drop i) acc h2).bind fun l h2 => allocD l h2),
    ⟨items.length, φ1, h1, [], [], rfl, Ext.new hD, s1.new hD, s1.out hD, upd_same, RD.nil, o1⟩, ?_⟩
  rintro i m H2 ⟨φ2, h2, acc, ws, hm, x2, s2, nD, hDl, ra, o2⟩
  cases e : items.drop i with
  | nil =>
    rw [e] at o2
    unfold za5 at o2
    split at o2
    · rename_i hs
      refine .inl ⟨wk.stop i φ2 h2 H2 x2.kp s2 hs (List.drop_eq_nil_iff.mp e), ?_⟩
      have o3 : Out K mg (RV K) φ1 H1 (atS W σ) Q (.ok (.ref h2.length) (h2 ++ [.dct acc])) := o2
      refine o3 (φ2 ++ [D]) H2 (.ref D) (x2.adopt hD) (s2.adoptD hDl nD ra) ⟨D, rfl, ?_⟩
      rw [← s2.len, List.getElem?_append_right (Nat.le_refl _), Nat.sub_self]
      rfl
    · exact (show False from o2).elim
  | cons p rest =>
    have ei : items[i]? = some p := by
      have := congrArg (·[0]?) e
      simpa using this
    have er : items.drop (i + 1) = rest := by
      rw [← List.drop_drop, e]
      rfl
    rw [e] at o2
    unfold za5 at o2
    split at o2
    · rename_i hs
      obtain ⟨hgo, hy⟩ := wk.go i φ2 h2 H2 p x2.kp s2 hs ei
      refine .inr ⟨hgo, fun H3 => ∃ φ2 h2 acc ws, Ext φ1 φ2 H1 H3 ∧ Sim K φ2 h2 H3 ∧ D ∉ φ2 ∧ H3 D = some (.dK ws) ∧ RD K φ2 H3 acc ws ∧
        Out K mg (RV K) φ1 H1 (atS W σ) Q ((za5 kp (fun x => zbo (zbi ρ own) is one x) (fun ρ1 h2 => (evGc C cond ρ1 h2).calm) (fun ρ1 h2 => (evG C ke false ρ1 h2).calm) (fun ρ1 h2 => (evG C ve false ρ1 h2).calm) rest acc h2).bind fun l h2 => allocD l h2), fun H3 z => ?_, fun v H3 y => ?_⟩
      · obtain ⟨φ3, h3, acc3, ws3, z1, z2, z3, z4, z5, z6⟩ := z
        refine ⟨rest.length, by rw [hm, e, List.length_cons]; omega, φ3, h3, acc3, ws3, by rw [er], z1, z2, z3, z4, z5, ?_⟩
        rw [er]
        exact z6
      · obtain ⟨ex, sx, rx⟩ := hy v H3 y
        cases eb : zbo (zbi ρ own) is one p with
        | none => simp only [eb] at o2; exact (show False from o2).elim
        | some ρ1 =>
          simp only [eb] at o2
          have xx := x2.trans ex
          have hD3 : H3 D = some (.dK ws) := ex.keep D _ hDl nD (fun ps z => by cases z)
          refine gT_ok (re1.mono xx) rx eb fun σ2 re2 wp => ⟨by rw [wp own his, wipe_wipe own fun _ z => z], ?_⟩
          have o3 := o2
          rw [R.bind_bind] at o3
          refine cond_ok sx re2 ((Out.calm_bind (rel2 := RI) (W' := fun _ _ _ => False) o3).imp fun b H4 ⟨φ4, b1, h4, x4, s4, r4, o4⟩ => ?_)
          have r4' : b1 = b := r4
          subst r4'
          have hD4 : H4 D = some (.dK ws) := x4.keep D _ hD3 nD (fun ps z => by cases z)
          have nD4 : D ∉ φ4 := fun z => by
            obtain ⟨ps, e⟩ := x4.fresh D z nD _ hD3
            cases e
          cases b1 with
          | false =>
            simp only [Bool.false_eq_true, if_false] at o4 ⊢
            exact ⟨φ4, h4, acc, ws, xx.trans x4, s4, nD4, hD4, (ra.mono ex).mono x4, o4⟩
          | true =>
            simp only [if_true] at o4 ⊢
            rw [R.bind_bind] at o4
            refine ⟨ρ1, φ4, h4, s4, re2.mono x4, (Out.calm_bind (rel2 := RV K) (W' := fun _ _ _ => False) o4).imp fun yk H5 ⟨φ5, v5, h5, x5, s5, r5, o5⟩ => ?_⟩
            have hD5 : H5 D = some (.dK ws) := x5.keep D _ hD4 nD4 (fun ps z => by cases z)
            have nD5 : D ∉ φ5 := fun z => by
              obtain ⟨ps, e⟩ := x5.fresh D z nD4 _ hD4
              cases e
            rw [R.bind_bind] at o5
            refine ⟨ρ1, φ5, h5, s5, (re2.mono x4).mono x5, (Out.calm_bind (rel2 := RV K) (W' := fun _ _ _ => False) o5).imp fun y H6 ⟨φ6, v6, h6, x6, s6, r6, o6⟩ => ?_⟩
            have hD6 : H6 D = some (.dK ws) := x6.keep D _ hD5 nD5 (fun ps z => by cases z)
            have nD6 : D ∉ φ6 := fun z => by
              obtain ⟨ps, e⟩ := x6.fresh D z nD5 _ hD5
              cases e
            have ra6 := (((ra.mono ex).mono x4).mono x5).mono x6
            cases ek : zce v5 with
            | none =>
              rw [ek] at o6
              exact (show False from o6).elim
            | some kk =>
              rw [ek] at o6
              have o7 : Out K mg (RV K) φ1 H1 (atS W σ) Q ((if za3 (acc.length + 1) = true then za5 kp (fun x => zbo (zbi ρ own) is one x) (fun ρ1 h2 => (evGc C cond ρ1 h2).calm) (fun ρ1 h2 => (evG C ke false ρ1 h2).calm) (fun ρ1 h2 => (evG C ve false ρ1 h2).calm) rest (putP acc kk v6) h6 else .no).bind fun l h2 => allocD l h2) := o6
              split at o7
              · rename_i hl
                refine ⟨ws, kk, keyOf_rel r5 ek, hD6, by rw [← ra.length]; exact line_lt hl, φ6, h6, putP acc kk v6, putK ws kk y, (((xx.trans x4).trans x5).trans x6).aside hD, s6.asideD hD6 nD6, nD6, upd_same, ?_, o7⟩
                exact (ra6.put kk r6).monoK (Kp.asideD hD6)
              · exact (show False from o7).elim
    · exact (show False from o2).elim
section
variable {X : Cx} {W : WX} {C : Calls}
theorem je_dcomp {kx vx tg iter : Expr} {ifs : List Expr} {scope : Scope} {own : List (Str × Nat)} {pos : Pos} {ke ve : E} {is : List Nat} {one : TgK} {k : ITK} {its : List E} {cond : Option E} (hc : X.calm = true) (hN : X.N.Nodup) (hi : JI X W C tg iter k its) (ok : BlkOk X.N X.env.scope scope own)
    (hg : ∀ (s : Shared) (H : Hp) (C : Addr) (cl : List (Str × Addr)) (fp : List Addr), PG (X.blk s H scope (compEnvC scope cl C X.env) fp) tg (gT X.K is one)) (ht : ∀ (s : Shared) (H : Hp) (C' : Addr) (cl : List (Str × Addr)) (fp : List Addr), PTs (X.blk s H scope (compEnvC scope cl C' X.env) fp) ifs (tCond (zOf (X.blk s H scope (compEnvC scope cl C' X.env) fp)) X.mg C cond))
    (hk : ∀ (s : Shared) (H : Hp) (C' : Addr) (cl : List (Str × Addr)) (fp : List Addr), JE (X.blk s H scope (compEnvC scope cl C' X.env) fp) W0 C kx ke)
    (he : ∀ (s : Shared) (H : Hp) (C' : Addr) (cl : List (Str × Addr)) (fp : List Addr), JE (X.blk s H scope (compEnvC scope cl C' X.env) fp) W0 C vx ve) (his : ∀ i ∈ is, i ∈ own.map (·.2) := by decide) (hs : ∀ x, foldedSetIterable iter X.env x = pure x := by intro _; rfl) :
    JE X W C (.DictComp kx vx [⟨tg, iter, ifs, 0⟩] scope pos) (.dcomp ke ve is one k its cond (own.map (·.2))) := by
  have hz : zOf X = ⟨X.K, [], X.prog, X.w⟩ := z_calm hc
  have hzb : ∀ (s : Shared) (H : Hp) (cenv : PySem.Env) (fp : List Addr), zOf (X.blk s H scope cenv fp) = ⟨X.K, [], X.prog, X.w⟩ := fun s H cenv fp => z_calm (X := X.blk s H scope cenv fp) hc
  have ht' : ∀ (s : Shared) (H : Hp) (C' : Addr) (cl : List (Str × Addr)) (fp : List Addr), PTs (X.blk s H scope (compEnvC scope cl C' X.env) fp) ifs (tCond ⟨X.K, [], X.prog, X.w⟩ X.mg C cond) := fun s H C' cl fp => by
    have z := ht s H C' cl fp
    rw [hzb] at z
    exact z
  have hk' : ∀ (s : Shared) (H : Hp) (C' : Addr) (cl : List (Str × Addr)) (fp : List Addr), PE (X.blk s H scope (compEnvC scope cl C' X.env) fp) kx (tE ⟨X.K, [], X.prog, X.w⟩ X.mg W0 C ke) := fun s H C' cl fp => by
    have z := hk s H C' cl fp
    unfold JE at z
    rw [hzb] at z
    exact z
  have he' : ∀ (s : Shared) (H : Hp) (C' : Addr) (cl : List (Str × Addr)) (fp : List Addr), PE (X.blk s H scope (compEnvC scope cl C' X.env) fp) vx (tE ⟨X.K, [], X.prog, X.w⟩ X.mg W0 C ve) := fun s H C' cl fp => by
    have z := he s H C' cl fp
    unfold JE at z
    rw [hzb] at z
    exact z
  exact zc3 (pe_dc (tk := tE ⟨X.K, [], X.prog, X.w⟩ X.mg W0 C ke) (tv := tE ⟨X.K, [], X.prog, X.w⟩ X.mg W0 C ve) hc hN hi ok hg ht' hk' he' hs) fun σ H Q t => by
    have t' := dcomp_red his t
    rw [← hz]
    exact t'
end
end Sb
namespace Sb
open PySem PySem.Spec PyProof.Rows L2
section
variable {prog : Program} {w : World} {A : Around} {E : Value → Shared → Prop} {s : Shared}
/-- the items of a tuple for n names and a starred one -/
theorem star_items {t : Addr} {xs : Array Value} {n : Nat} {Q : List Value → Shared → Prop} (ht : IsTup s.heap t xs) (hh : A.handled = none) (hn : n ≤ xs.size) (hz : xs.size ≤ 1000)
    (q : ∀ D h' tk, (∀ b o, s.heap.get? b = some o → h'.get? b = some o) → Q (xs.toList.take n ++ [.ref D]) { s with heap := h', toks := tk }) : wpAny (model prog w) A (unpackItems (.ref t) (n + 1) (some n)) Q E s := by
  obtain ⟨o0, ho0, _⟩ := id ht
  have lt0 := Heap.lt_size ho0
  have ne0 : t ≠ s.heap.objs.size := Nat.ne_of_lt lt0
  unfold unpackItems notIterableAtAll
  refine wpAny_bind (wpAny_bind (wpAny_specialOf ht.typeIs slot_tuple_iter.lookup (wpAny_pure ?_)))
  rw [if_neg Bool.false_ne_true]
  refine wpAny_bind (wpAny_holding (iter_tuple ht (wpAny_bind (wpAny_holding
    (draw_tuple ne0 n 0 _ _ ⟨_, Heap.get?_push_size _ rfl, rfl, rfl⟩ (ht.push _) (by omega) fun g1 i1 sb1 => ?_)))))
  have t1 : IsTup g1 t xs := (ht.push _).extBut sb1.extBut ne0
  rw [Nat.zero_add] at i1
  obtain ⟨oi, hoi, _⟩ := id i1
  obtain ⟨ot, hot, _⟩ := id t1
  have l1 : (xs.toList.take n).length = n := by
    rw [List.length_take, Array.length_toList]
    omega
  rw [List.drop_zero, if_neg (by rw [l1]; omega)]
  have W := Walks.tuple (prog := prog) (w := w) (A := A.in1) hh s.heap.objs.size t ne0 xs
  have l2 : (xs.toList.drop n).length = xs.size - n := by rw [List.length_drop, Array.length_toList]
  refine wpAny_bind (wpAny_holding (PySem.W.kun_collect (s := { s with heap := g1 }) (T := "tuple_iterator") (.inr (.inr (.inr rfl))) W (fun j u z => z.1.typeIs) hn ⟨i1, t1⟩ (Heap.lt_size hoi) (Heap.lt_size hot) (fun g2 tk hk => ?_) (by rw [sizeLine_eq]; omega)))
  have e0 : n + 1 - 1 - n = 0 := by omega
  rw [if_neg (by rw [l2]; omega), e0, Nat.sub_zero]
  show wpAny (model prog w) A (newList ((xs.toList.drop n).take (xs.toList.drop n).length) >>= fun d => pure (xs.toList.take n ++ [d] ++ (xs.toList.drop n).drop (xs.toList.drop n).length)) Q E { s with heap := g2, toks := tk }
  rw [List.take_length, List.drop_length]
  have kp : ∀ b o, s.heap.get? b = some o → g2.get? b = some o := fun b o e => by
    have nb : b ≠ s.heap.objs.size := Nat.ne_of_lt (Heap.lt_size e)
    exact hk b o nb (sb1.extBut b o nb (Heap.get?_push_of_some _ e))
  refine wpAny_bind (wpAny_newList (s := { s with heap := g2, toks := tk }) (wpAny_pure ?_) (by rw [l2, sizeLine_eq]; omega))
  rw [List.append_nil]
  exact q _ _ tk fun b o e => Heap.get?_push_of_some _ (kp b o e)
end
section
variable {X : Cx} {pos : Pos}
theorem pg_star {es : List Expr} {k n : Nat} {t : TGs} (hc : X.calm = true) (h : PGs X es t)
    (hn : (assignEach es X.env).length = n + 1 := by rfl) (hst : (assignEach es X.env).findIdx? (·.1) = some n := by rfl) : PG X (.Tuple es k pos) (gStar X.K (n + 1) t) := by
  refine ⟨fun pins s σ H v u Q I r z => ?_⟩
  obtain ⟨a, xs, e1, sq, l1, _, l2, tt⟩ := z
  subst e1
  cases r
  obtain ⟨its, rv, it, hz⟩ := I.tuple sq
  have ls := rv.length
  rw [assign_Tuple]
  refine wpAny_bind (wpAny_standAt ?_)
  unfold unpack
  rw [hn, hst]
  have sz : its.toArray.size = xs.length := by simpa using ls.symm
  refine wpAny_bind (wpAny_holding (star_items it (I.ok.hd hc) (by omega) (by omega) fun D h' tk kp => ?_))
  have I1 : Inv X pins σ H { s with heap := h', toks := tk } := I.kept kp
  refine h.run pins _ σ H _ _ Q I1 ?_ (tt D)
  show Vals (xs.take n ++ [.ref D]) (its.take n ++ [.ref D])
  exact (rv.take n).append (.cons (by constructor) .nil)
theorem pgs_star {e : Expr} {es : List Expr} {sp : Pos} {t : TG} {u : TGs} (h1 : PG X e t) (h2 : PGs X es u)
    (hs : (assignEach (.Starred e sp :: es) X.env).map (·.2) = assign e X.env :: (assignEach es X.env).map (·.2) := by rfl) : PGs X (.Starred e sp :: es) (gCons t u) := by
  refine ⟨fun pins s σ H vs us Q I r h => ?_⟩
  obtain ⟨v, vr, e1, h⟩ := h
  subst e1
  cases r with
  | cons r rr =>
    rw [hs]
    exact assignInOrder_cons (thn (h1.run pins s σ H _ _ _ I r h) fun _ s1 ⟨σ1, H1, I1, q1⟩ => h2.run pins s1 σ1 H1 _ _ Q I1 rr q1)
end
end Sb
namespace Sb
open PySem PySem.Spec PyProof.Rows L2
section
variable {K : ZZ} {φ : List Addr} {H H' : Hp}
/-- nothing but tables may have changed -/
abbrev Grow (H H' : Hp) : Prop := ∀ a o, (∀ ps, o ≠ .tbl ps) → H a = some o → H' a = some o
theorem Grow.kp (g : Grow H H') : Kp φ φ H H' := ⟨fun _ _ q => q, fun a o f e n => ⟨g a o (fix_ntbl f) e, n⟩⟩
theorem Grow.ext (g : Grow H H') : Ext φ φ H H' := ⟨⟨[], by simp⟩, fun a o e _ nt => g a o nt e, fun _ h n => absurd h n⟩
theorem Grow.sim {h : PH} (g : Grow H H') (s : Sim K φ h H) (t : LamX.Tabs (tabsOf K.K) H') : Sim K φ h H' := ⟨s.len, s.nd, fun m u q => by
  obtain ⟨a, ho, e1, e2, r⟩ := s.ob m u q
  exact ⟨a, ho, e1, g a ho (s.plain (List.mem_of_getElem? e1) ho e2).1 e2, r.monoK g.kp⟩, t⟩
def reK (a b : Str) (kvs : List (Key × V)) : List (Key × V) := kvs.map fun kv => (kv.1, match kv.2 with | .str m => .str (if m = b then a else m) | v => v)
theorem RD.re {a b : Str} : ∀ {l : List (Key × PV)} {kvs : List (Key × V)}, RD K φ H l kvs → (zcy (l.map (·.2))).isSome = true → RD K φ H (zbc a b l) (reK a b kvs) ∧ ∀ kv ∈ kvs, ∃ m, kv.2 = .str m
  | [], kvs, r, _ => by
    rw [r.empty]
    exact ⟨RD.nil, fun _ h => (by cases h)⟩
  | (k, p) :: l, kvs, r, hs => by
    obtain ⟨v, t, rfl, q, s⟩ := r.inv
    cases p with
    | str m =>
      have ev : v = .str m := q
      subst ev
      have hs' : (zcy (l.map (·.2))).isSome = true := by
        have : (zcy (PV.str m :: l.map (·.2))).isSome = true := hs
        simpa [zcy] using this
      obtain ⟨r1, r2⟩ := RD.re s hs'
      refine ⟨RD.cons (k := k) (p := .str (if m = b then a else m)) (v := .str (if m = b then a else m)) rfl r1, fun kv hkv => ?_⟩
      rcases List.mem_cons.mp hkv with rfl | z
      · exact ⟨m, rfl⟩
      · exact r2 kv z
    | _ => simp [zcy] at hs
theorem wipe_at {σ : L2.St} {i : Nat} : ∀ {vs : List Nat}, i ∉ vs → (L2.wipe σ vs)[i]? = σ[i]?
  | [], _ => rfl
  | v :: vs, h => by
    show ((L2.wipe σ vs).set v none)[i]? = _
    rw [List.getElem?_set_ne (fun z => h (by rw [z]; exact List.mem_cons_self)), wipe_at fun z => h (List.mem_cons_of_mem _ z)]
theorem merge_snoc (l : List (Key × V)) (k : Key) (v : V) (kvs : List (Key × V)) : mergeK l (kvs ++ [(k, v)]) = putK (mergeK l kvs) k v := by
  unfold mergeK
  rw [List.foldl_append]
  rfl
theorem tabs_at {T : List (Addr × Str)} {a : Addr} {kvs : List (Key × V)} {u : HO} (e : H a = some (.dK kvs)) (t : LamX.Tabs T H) : LamX.Tabs T (upd H a u) := tabs_upd (dK_plain e) t
theorem remark_red {mg : Str → Option Value} {W : WX} {C : Calls} {d nr fr is im : Nat} {ow : List Nat} (h1 : is ∈ ow) (h2 : im ∈ ow) (h3 : nr ∉ ow) (h4 : fr ∉ ow) (h5 : is ≠ im) {σ : L2.St} {Q : VK} (l1 : is < σ.length) (l2 : im < σ.length) (t : tE K mg W C (.remark d nr fr) σ H Q) :
    tLockE (tDc (iItems (tVar d)) (gT K.K [is, im] .tup) tYes (tVar is) (tIf (tTest (tOp (fun x y H Q => ∃ W', rOp K mg W' (zbd .Eq) x y H Q) (tVar im) (tVar fr))) (tVar nr) (tVar im)) ow) σ H Q := by
  obtain ⟨ρ, φ, h, sm, re, o⟩ := t
  have o' : Out K mg (RV K) φ H (atS W σ) Q (remarkP (ρ.get d) (ρ.get nr) (ρ.get fr) h) := o
  unfold remarkP at o'
  split at o'
  rotate_left
  · exact o'.elim
  rename_i n a b g1 g2 g3
  split at o'
  rotate_left
  · exact o'.elim
  rename_i l hl
  split at o'
  rotate_left
  · exact o'.elim
  rename_i xs hx
  split at o'
  rotate_left
  · exact o'.elim
  rename_i hz
  have var : ∀ {i : Nat} {p : PV}, ρ.get i = some p → ∃ v, σ[i]? = some (some v) ∧ RV K φ H p v := fun {i p} e => by
    have e' : ρ[i]? = some (some p) := by
      unfold Env.get at e
      split at e
      · rename_i q hq
        cases e
        exact hq
      · cases e
    exact re.get e'
  obtain ⟨vd, s1, ad, rfl, ha⟩ := var g1
  obtain ⟨vn, s2, rn⟩ := var g2
  obtain ⟨vf, s3, rf⟩ := var g3
  have rn' : vn = .str a := rn
  have rf' : vf = .str b := rf
  subst rn' rf'
  obtain ⟨ad', ho, e1, e2, kvs, e3, rk⟩ := sm.ob n _ hl
  have ea : ad' = ad := Option.some.inj (e1.symm.trans ha)
  subst ea
  subst e3
  have rd : RD K φ H l kvs := rk
  obtain ⟨rre, str⟩ := rd.re (a := a) (b := b) (by rw [hx]; rfl)
  have lk := rd.length
  have nad : ad' ∈ φ := List.mem_of_getElem? ha
  refine ⟨ad', .dK kvs, e2, True.intro, fun od => ?_⟩
  refine ⟨_, s1, ad', od, kvs, rfl, upd_same, fun D hD => ?_⟩
  have Dne : D ≠ ad' := fun z => by
    rw [z, upd_same] at hD
    cases hD
  have hD0 : H D = none := by rwa [upd_ne Dne] at hD
  have lr : (reK a b kvs).length = kvs.length := by unfold reK; rw [List.length_map]
  refine ⟨fun i m G => m = kvs.length - i ∧ i ≤ kvs.length ∧ G ad' = some (.frz od (.dK kvs)) ∧ (∀ c u, c ≠ ad' → (∀ ps, u ≠ .tbl ps) → H c = some u → G c = some u) ∧ LamX.Tabs (tabsOf K.K) G ∧ G D = some (.dK (mergeK [] ((reK a b kvs).take i))), ⟨kvs.length, rfl, Nat.zero_le _, ?_, ?_, ?_, upd_same⟩, ?_⟩
  · rw [upd_ne (Ne.symm Dne)]
    exact upd_same
  · intro c u hc _ e
    rw [upd_ne (fun z => by rw [z, hD0] at e; cases e), upd_ne hc]
    exact e
  · exact tabs_upd (none_plain hD) (tabs_at e2 sm.tb)
  · rintro i m G ⟨rfl, hi, gf, gk, gt, gd⟩
    by_cases hlt : i < kvs.length
    · refine .inr ⟨⟨gf, hlt⟩, fun G' => G' ad' = some (.frz od (.dK kvs)) ∧ (∀ c u, c ≠ ad' → (∀ ps, u ≠ .tbl ps) → H c = some u → G' c = some u) ∧ LamX.Tabs (tabsOf K.K) G' ∧ G' D = some (.dK (mergeK [] ((reK a b kvs).take (i + 1)))), fun G' z => ⟨kvs.length - (i + 1), by omega, rfl, hlt, z⟩, ?_⟩
      rintro x G' ⟨T, k, v, ek, rfl, hT, rfl⟩
      obtain ⟨mk, emk⟩ := str (k, v) (List.mem_of_getElem? ek)
      have emk' : v = .str mk := emk
      subst emk'
      have Tad : T ≠ ad' := fun z => by rw [z, gf] at hT; cases hT
      have TD : T ≠ D := fun z => by rw [z, gd] at hT; cases hT
      refine ⟨T, [kV k, .str mk], rfl, .inl (.inl upd_same), rfl, gNs_ok rfl ?_⟩
      have wl : (L2.wipe σ ow).length = σ.length := wipe_length σ ow
      have si : (setV [is, im] [kV k, .str mk] (L2.wipe σ ow))[is]? = some (some (kV k)) := by
        show (((L2.wipe σ ow).set is (some (kV k))).set im (some (.str mk)))[is]? = _
        rw [List.getElem?_set_ne (Ne.symm h5), List.getElem?_set_self (by omega)]
      have sj : (setV [is, im] [kV k, .str mk] (L2.wipe σ ow))[im]? = some (some (.str mk)) := by
        show (((L2.wipe σ ow).set is (some (kV k))).set im (some (.str mk)))[im]? = _
        rw [List.getElem?_set_self (by rw [List.length_set]; omega)]
      have sk : ∀ j, j ∉ ow → (setV [is, im] [kV k, .str mk] (L2.wipe σ ow))[j]? = σ[j]? := fun j hj => by
        show (((L2.wipe σ ow).set is (some (kV k))).set im (some (.str mk)))[j]? = _
        rw [List.getElem?_set_ne (fun z => hj (by rw [← z]; exact h2)), List.getElem?_set_ne (fun z => hj (by rw [← z]; exact h1)), wipe_at hj]
      have w0 : L2.wipe (setV [is, im] [kV k, .str mk] (L2.wipe σ ow)) ow = L2.wipe σ ow := by
        show L2.wipe (((L2.wipe σ ow).set is (some (kV k))).set im (some (.str mk))) ow = _
        rw [wipe_set h2, wipe_set h1, wipe_wipe ow fun _ z => z]
      refine ⟨w0, ?_⟩
      have tb' : LamX.Tabs (tabsOf K.K) (upd G T (.tup [kV k, .str mk])) := tabs_upd (none_plain hT) gt
      unfold tYes
      simp only [if_true]
      refine ⟨_, si, ⟨_, sj, _, (sk fr h4).trans s3, fun _ _ _ => False, [], [], .str mk, .str b, ⟨rfl, List.nodup_nil, fun _ _ e => (by simp at e), tb'⟩, rfl, rfl, ?_⟩⟩
      show Out K mg (RV K) [] _ _ _ (R.ok (PV.bl (decide (mk = b))) [])
      intro φ' G2 bb ex sx rb
      have rb' : bb = .bl (decide (mk = b)) := rb
      subst rb'
      have kp : ∀ c u, (∀ ps, u ≠ .tbl ps) → upd G T (.tup [kV k, .str mk]) c = some u → G2 c = some u := fun c u nt e => ex.keep c u e (by simp) nt
      have gf2 : G2 ad' = some (.frz od (.dK kvs)) := kp _ _ (fun _ z => by cases z) (by rw [upd_ne (Ne.symm Tad)]; exact gf)
      have gd2 : G2 D = some (.dK (mergeK [] ((reK a b kvs).take i))) := kp _ _ (fun _ z => by cases z) (by rw [upd_ne (Ne.symm TD)]; exact gd)
      -- the mark that is kept
      have en : ∀ z : Str, (z = if mk = b then a else mk) → ∃ kvs' k', kV k = kV k' ∧ G2 D = some (.dK kvs') ∧ kvs'.length < sizeLine ∧ (upd G2 D (.dK (putK kvs' k' (.str z)))) ad' = some (.frz od (.dK kvs)) ∧ (∀ c u, c ≠ ad' → (∀ ps, u ≠ .tbl ps) → H c = some u → (upd G2 D (.dK (putK kvs' k' (.str z)))) c = some u) ∧ LamX.Tabs (tabsOf K.K) (upd G2 D (.dK (putK kvs' k' (.str z)))) ∧ (upd G2 D (.dK (putK kvs' k' (.str z)))) D = some (.dK (mergeK [] ((reK a b kvs).take (i + 1)))) := fun z ez => by
        refine ⟨_, k, rfl, gd2, ?_, ?_, fun c u hc nt e => ?_, tabs_at gd2 sx.tb, ?_⟩
        · have q1 := length_mergeK ((reK a b kvs).take i) []
          rw [List.length_take, List.length_nil] at q1
          have q2 : l.length + 1 ≤ 1000000 := of_decide_eq_true hz
          have := sizeLine_eq
          omega
        · rw [upd_ne (Ne.symm Dne)]
          exact gf2
        · rw [upd_ne (fun y => by rw [y, hD0] at e; cases e)]
          refine kp c u nt ?_
          rw [upd_ne (fun y => ?_)]
          · exact gk c u hc nt e
          · have := gk c u hc nt e
            rw [y, hT] at this
            cases this
        · rw [upd_same]
          have er : (reK a b kvs)[i]? = some (k, .str z) := by
            unfold reK
            rw [List.getElem?_map, ek, ez]
            rfl
          rw [List.take_add_one, er]
          show _ = some (HO.dK (mergeK [] ((reK a b kvs).take i ++ [(k, .str z)])))
          rw [merge_snoc]
      refine ⟨_, rfl, ?_⟩
      dsimp only
      by_cases hm : mk = b
      · rw [if_pos (decide_eq_true hm)]
        exact ⟨_, (sk nr h3).trans s2, en a (by rw [if_pos hm])⟩
      · rw [if_neg (by simpa using hm)]
        exact ⟨_, sj, en mk (by rw [if_neg hm])⟩
    · refine .inl ⟨⟨gf, by omega⟩, gf, ?_⟩
      have ei : i = kvs.length := by omega
      subst ei
      rw [← lr, List.take_length] at gd
      have gr : Grow H (upd G ad' (.dK kvs)) := fun c u nt e => by
        by_cases hc : c = ad'
        · subst hc
          rw [upd_same, ← e, e2]
        · rw [upd_ne hc]
          exact gk c u hc nt e
      have tb2 : LamX.Tabs (tabsOf K.K) (upd G ad' (.dK kvs)) := tabs_upd (fun u e => by
        rw [gf] at e
        cases e
        exact ⟨fun _ z => (by cases z), fun _ z => (by cases z)⟩) gt
      have sm2 := gr.sim sm tb2
      have gd2 : upd G ad' (.dK kvs) D = some (.dK (mergeK [] (reK a b kvs))) := by rw [upd_ne Dne]; exact gd
      have nD : D ∉ φ := sm.out hD0
      refine o' (φ ++ [D]) _ (.ref D) (gr.ext.adopt hD0) (sm2.adoptD gd2 nD ((RD.merge rre RD.nil).monoK gr.kp)) ⟨D, rfl, ?_⟩
      rw [← sm.len, List.getElem?_append_right (Nat.le_refl _), Nat.sub_self]
      rfl
end
end Sb
namespace Sb
open PySem PySem.Spec PyProof.Rows L2
section
variable {X : Cx}
/-- {elt for target in iter if ..}, the members ints or texts: D the new set -/
def tScK (P : Program) (w : World) (wi : TI) (g : TG) (tt : TT) (te : TE) (vs : List Nat) : TE := fun σ H Q => wi σ H fun J H1 => ∀ D, H1 D = none → ∃ W : Nat → Nat → Hp → Prop, (∃ m, W 0 m (upd H1 D (SetK P w D (fun _ => false) 0))) ∧ ∀ i m H, W i m H →
  (J.stop i H ∧ Q (.ref D) H) ∨ (J.go i H ∧ ∃ Nx : Hp → Prop, (∀ H', Nx H' → ∃ m', m' < m ∧ W (i + 1) m' H') ∧ ∀ x H', J.yld i H x H' → g x (wipe σ vs) H' fun σ2 H2 => wipe σ2 vs = wipe σ vs ∧ tt σ2 H2 fun b H3 =>
    if b = true then te σ2 H3 fun y H4 => ∃ (c : Key) (S : Key → Bool) (n : Nat), y = kV c ∧ H4 D = some (SetK P w D S n) ∧ n + 1 < scanBound ∧ Nx (upd H4 D (SetK P w D (fun j => S j || decide (j = c)) (if S c = true then n else n + 1))) else Nx H3)
theorem set_empty {h : Heap} {P : Program} {w : World} : (h.push { cls := .type "set", dict := none, data := .set #[] 0 (.fresh 0 0 (!w.params.followText "set-order")) }).SetOf (mixKind P w) h.objs.size (fun _ => false) 0 :=
  ⟨_, #[], 0, _, Heap.get?_push_size _ rfl, ⟨rfl, rfl, rfl⟩, rfl, (fun e he => by simp at he), (fun k => by simp), by decide, by rfl, rfl⟩
theorem scK_core {pins : List (Addr × Obj)} {s : Shared} {σ : L2.St} {H : Hp} {Q : VK} {elt tg iter : Expr} {ifs : List Expr} {scope : Scope} {own : List (Str × Nat)} {pos pos' : Pos} {wi : TI} {g : TG} {tt : TT} {te : TE} {use : Option (Value → Sem Unit)} {Qf : Value → Shared → Prop} (hc : X.calm = true) (hN : X.N.Nodup) (I : Inv X pins σ H s) (hi : PI X tg iter wi) (ok : BlkOk X.N X.env.scope scope own)
    (hg : ∀ (s : Shared) (H : Hp) (C : Addr) (cl : List (Str × Addr)) (fp : List Addr), PG (X.blk s H scope (compEnvC scope cl C X.env) fp) tg g) (ht : ∀ (s : Shared) (H : Hp) (C : Addr) (cl : List (Str × Addr)) (fp : List Addr), PTs (X.blk s H scope (compEnvC scope cl C X.env) fp) ifs tt)
    (he : ∀ (s : Shared) (H : Hp) (C : Addr) (cl : List (Str × Addr)) (fp : List Addr), PE (X.blk s H scope (compEnvC scope cl C X.env) fp) elt te) (hs : ∀ x, foldedSetIterable iter X.env x = pure x)
    (t : tScK X.prog X.w wi g tt te (own.map (·.2)) σ H Q)
    (hR : ∀ D C s' m G, Inv X pins σ G s' → Q (.ref D) G → s'.heap.Ns C m → FpOk X pins G C → compPost (model X.prog X.w) X.A X.xe use Qf (.ref D) C (.ok .next) s') :
    wpAny (model X.prog X.w) X.A (comprehension (.SetComp elt [⟨tg, iter, ifs, 0⟩] scope pos) scope X.env pos' (newSet (.type "set")) false (eval iter X.env) use) Qf X.xe s := by
  have clo : ∀ y ∈ scope.names, y.2 = .free → ∃ c, X.env.cells.lookup y.1 = some c := fun y hy e => (ok.free y hy e).elim (fun k => I.ok.has _ (.inl k)) fun k => I.ok.has _ (.inr k)
  refine wpAny_comprehension_free rfl hs (closure_ok clo) ok.kind (fun y hy e => by rw [ok.uniq y hy, e]) (thn (hi.run pins s σ H _ I t) fun xv s1 p1 => thn p1 fun iv s2 p2 => ?_)
  obtain ⟨it, fp, tn, J, G0, rfl, J0, T, at0, own0, q⟩ := p2
  refine PpSet.newSet_ok (newEnv_comp ?_)
  obtain ⟨D, eD⟩ : ∃ D, D = s2.heap.objs.size := ⟨_, rfl⟩
  have fD : G0 D = none := J0.hok.fresh (Nat.le_of_eq eD.symm)
  obtain ⟨W, ⟨m0, wW⟩, turn⟩ := q D fD
  rw [← eD]
  -- the new set
  obtain ⟨o3, eo3⟩ : ∃ o3 : Obj, o3 = { cls := .type "set", dict := none, data := .set #[] 0 (.fresh 0 0 (!X.w.params.followText "set-order")) } := ⟨_, rfl⟩
  rw [← eo3]
  obtain ⟨s3, es3⟩ : ∃ s3 : Shared, s3 = { s2 with heap := s2.heap.push o3 } := ⟨_, rfl⟩
  have hp3 : s3.heap = s2.heap.push o3 := by rw [es3]
  obtain ⟨G1, eG1⟩ : ∃ G1, G1 = upd G0 D (SetK X.prog X.w D (fun _ => false) 0) := ⟨_, rfl⟩
  have J1 : Inv X pins σ G1 s3 := by
    rw [es3, eG1]
    refine J0.laid (t' := s2.toks) (fun b o e => Heap.get?_push_of_some _ e) (Nat.le_of_eq eD.symm) (setK_new ?_)
    rw [eD, eo3]
    exact set_empty
  have lt0 : ∀ b ∈ fp, b < s2.heap.objs.size := fun b hb => let ⟨_, e, _⟩ := T.obj _ _ at0 b hb; Heap.lt_size e
  have own1 : ∀ b ∈ fp, FpOk X pins G1 b ∧ b < s3.heap.objs.size := fun b hb => by
    have l := lt0 b hb
    refine ⟨⟨?_, (own0 b hb).2⟩, by rw [hp3, Heap.size_push]; exact Nat.lt_succ_of_lt l⟩
    rw [eG1, upd_ne (by rw [eD]; exact Nat.ne_of_lt l)]
    exact (own0 b hb).1
  have at1 : tn 0 s3.heap := T.keep _ _ _ at0 fun b _ o e => by rw [hp3]; exact Heap.get?_push_of_some _ e
  have J2 := block_start J1 ok hN own1
  obtain ⟨cl, ecl⟩ : ∃ cl, cl = cellsFrom (s3.heap.objs.size + 1) scope.names (cloFrom X.env.cells scope.names []) := ⟨_, rfl⟩
  have pg := hg s3 G1 s3.heap.objs.size cl fp
  have pt := ht s3 G1 s3.heap.objs.size cl fp
  have pe := he s3 G1 s3.heap.objs.size cl fp
  rw [← ecl] at J2
  obtain ⟨ce, ece⟩ : ∃ ce, ce = compEnvC scope cl s3.heap.objs.size X.env := ⟨_, rfl⟩
  rw [← ece] at J2 pg pt pe
  have ceL : ce.locals = s3.heap.objs.size := by rw [ece]; rfl
  have none1 : ∀ b ∈ fp, G1 b = none := fun b hb => (own1 b hb).1.1
  rw [← eG1] at wW
  obtain ⟨s4, es4⟩ : ∃ s4 : Shared, s4 = { s3 with heap := pushCells (s3.heap.push { cls := .type "dict", data := .dict #[] }) scope.names } := ⟨_, rfl⟩
  rw [← es4] at J2
  have at2 : tn 0 s4.heap := T.keep _ _ _ at1 fun b _ o e => by rw [es4]; exact pushCells_keeps _ _ _ _ (Heap.get?_push_of_some _ e)
  have fpk : ∀ {σ' : L2.St} {G : Hp} {s' : Shared}, Inv (X.blk s3 G1 scope ce fp) [] σ' G s' → (∀ b ∈ fp, G b = none) → ∀ b ∈ fp, FpOk (X.blk s3 G1 scope ce fp) [] G b := fun {σ' G s'} I' hn b hb =>
    ⟨hn b hb, (I'.ok.exf b hb).1, I'.ok.exfs b hb, .inl hb, fun x c e => (I'.ok.exf b hb).2 x c e, fun p hp => by cases (show p ∈ ([] : List (Addr × Obj)) from hp)⟩
  have loop : codeAny (model X.prog X.w) X.A (.compLoop (.SetComp elt [⟨tg, iter, ifs, 0⟩] scope pos) 0 (.ref it) (.ref D) ce) (compPost (model X.prog X.w) X.A X.xe use Qf (.ref D) s3.heap.objs.size) s4 := by
    refine PpSet.compLoopS_any (fun n s' => ∃ i G, Inv (X.blk s3 G1 scope ce fp) [] (wipe σ (own.map (·.2))) G s' ∧ tn i s'.heap ∧ (∀ b ∈ fp, G b = none) ∧ W i n G) ?_ m0 ⟨0, G1, J2, at2, none1, wW⟩
    rintro n s5 ⟨i, G, I5, at5, none5, w5⟩
    rcases turn i n G w5 with ⟨stop, qq⟩ | ⟨go, Nx, hNx, step⟩
    · refine thnF (T.done (X.blk s3 G1 scope ce fp) rfl rfl rfl hc i [] s5 _ G (fun _ _ => False) I5 (fpk I5 none5) at5 stop) fun r s6 ⟨hr, I6⟩ => ?_
      subst hr
      have I7 : Inv X pins σ G s6 := J1.call' (ch := fp) I6.os I6.base I6.hok I6.bare fun b hb => let z := (own1 b hb).1.2; ⟨z.2.2.1, z.1, z.2.2.2.1, z.2.2.2.2⟩
      have free6 : G s3.heap.objs.size = none := by
        rw [← ceL]
        exact I6.free
      obtain ⟨m, hn, _⟩ := I6.loc
      have hn : s6.heap.Ns ce.locals m := hn
      rw [ceL] at hn
      exact hR D s3.heap.objs.size s6 m G I7 qq hn (J1.fpOk (Nat.le_refl _) free6)
    · refine thnF (T.item (X.blk s3 G1 scope ce fp) rfl rfl rfl hc i [] s5 _ G (fun _ _ => False) I5 (fpk I5 none5) at5 go) fun r s6 ⟨u, hr, h6⟩ => ?_
      subst hr
      refine thnF h6 fun _ s7 ⟨x, G7, I7, r7, y7, at7, none7⟩ => ?_
      have P7 := I7.pinned (fpk I7 none7) (T.obj _ _ at7)
      refine thnF (pg.run _ s7 _ G7 x u _ P7 r7 (step x G7 y7)) fun _ s8 ⟨σ8, G8, I8, w8, q8⟩ => ?_
      refine thnF (pt.run _ s8 σ8 G8 _ I8 q8) fun b s9 ⟨G9, I9, q9⟩ => ?_
      have next : ∀ {s' : Shared} {G' : Hp}, Inv (X.blk s3 G1 scope ce fp) ([] ++ pinsAt fp s7.heap) σ8 G' s' → Nx G' → ∃ m, m < n ∧ ∃ i G, Inv (X.blk s3 G1 scope ce fp) [] (wipe σ (own.map (·.2))) G s' ∧ tn i s'.heap ∧ (∀ b ∈ fp, G b = none) ∧ W i m G := fun {s' G'} I' nx => by
        obtain ⟨m', lt, w'⟩ := hNx G' nx
        have pn : ∀ b ∈ fp, ∀ o, s7.heap.get? b = some o → s'.heap.get? b = some o ∧ G' b = none := fun b hb o e => by
          obtain ⟨z1, z2, _⟩ := I'.pin (b, o) (List.mem_append_right _ (List.mem_append_right _ (mem_pinsAt hb e)))
          exact ⟨z1, z2⟩
        refine ⟨m', lt, i + 1, G', (I'.unpinned (pins := [])).weak (by rw [← w8, wipe_length]) (fun j v e => ?_), T.keep _ _ _ at7 fun b hb o e => (pn b hb o e).1, fun b hb => ?_, w'⟩
        · rw [← w8] at e
          exact (wipe_some e).1
        · obtain ⟨o, e, _⟩ := T.obj _ _ at7 b hb
          exact (pn b hb o e).2
      cases b with
      | false =>
        rw [if_neg Bool.false_ne_true] at q9 ⊢
        exact next I9 q9
      | true =>
        rw [if_pos rfl] at q9 ⊢
        refine thnF (pe.run _ s9 σ8 G9 _ I9 q9) fun z s10 ⟨y, G10, I10, r10, c, S, k, ey, hD, rm, nx⟩ => ?_
        subst ey
        have ad := mt_saddK (X := X.blk s3 G1 scope ce fp) ([] ++ pinsAt fp s7.heap) s10 σ8 G10 (.ref D) [kV c] (.ref D) [z] (fun _ G => Nx G) I10 rfl (.cons r10 .nil) ⟨D, c, S, k, rfl, rfl, hD, rm, nx⟩
        exact thnF ad fun _ s11 ⟨_, G11, I11, _, nx⟩ => next I11 nx
  have fin := PpSet.codeAny_compStart_set loop (T.self X.A 0 _ _ _ at2 loop)
  rw [es4, ece, ecl] at fin
  rw [← es3]
  exact fin
theorem pe_scK {elt tg iter : Expr} {ifs : List Expr} {scope : Scope} {own : List (Str × Nat)} {pos : Pos} {wi : TI} {g : TG} {tt : TT} {te : TE} (hc : X.calm = true) (hN : X.N.Nodup) (hi : PI X tg iter wi) (ok : BlkOk X.N X.env.scope scope own)
    (hg : ∀ (s : Shared) (H : Hp) (C : Addr) (cl : List (Str × Addr)) (fp : List Addr), PG (X.blk s H scope (compEnvC scope cl C X.env) fp) tg g) (ht : ∀ (s : Shared) (H : Hp) (C : Addr) (cl : List (Str × Addr)) (fp : List Addr), PTs (X.blk s H scope (compEnvC scope cl C X.env) fp) ifs tt)
    (he : ∀ (s : Shared) (H : Hp) (C : Addr) (cl : List (Str × Addr)) (fp : List Addr), PE (X.blk s H scope (compEnvC scope cl C X.env) fp) elt te) (hs : ∀ x, foldedSetIterable iter X.env x = pure x := by intro _; rfl) :
    PE X (.SetComp elt [⟨tg, iter, ifs, 0⟩] scope pos) (tScK X.prog X.w wi g tt te (own.map (·.2))) := by
  refine ⟨fun pins s σ H Q I t => ?_⟩
  rw [PpSet.eval_SetComp]
  refine scK_core hc hN I hi ok hg ht he hs t fun D C s' m G I' qq hn f => ⟨m, hn, fun h'' sb => ?_⟩
  obtain ⟨f0, f1, f2, f3, f4, f5⟩ := f
  exact ⟨.ref D, G, I'.turned (t' := s'.toks) (fun b o hb e => (sb.2 b hb).trans e) f0 f1 f3 f4 f5, rfl, qq⟩
end
section
variable {K : ZZ} {φ : List Addr} {H : Hp}
abbrev MemK (l : List Key) : Key → Bool := fun k => l.any fun j => decide (j = k)
theorem mem_addK (l : List Key) (k : Key) : MemK (addK l k) = fun j => MemK l j || decide (j = k) := by
  funext j
  show (addK l k).any (fun i => decide (i = j)) = (l.any (fun i => decide (i = j)) || decide (j = k))
  unfold addK
  split
  · rename_i e
    by_cases z : j = k
    · subst z
      rw [e]
      rfl
    · rw [decide_eq_false z, Bool.or_false]
  · rw [List.any_append]
    congr 1
    show (decide (k = j) || false) = _
    rw [Bool.or_false]
    exact decide_eq_decide.mpr eq_comm
theorem len_addK (l : List Key) (k : Key) : (addK l k).length = if MemK l k = true then l.length else l.length + 1 := by
  unfold addK
  split
  · rfl
  · simp
theorem nd_addK {l : List Key} {k : Key} (h : l.Nodup) : (addK l k).Nodup := by
  unfold addK
  split
  · exact h
  · rename_i e
    rw [List.nodup_append]
    refine ⟨h, by simp, fun a ha b hb z => e ?_⟩
    rw [List.mem_singleton.mp hb] at z
    exact List.any_eq_true.mpr ⟨a, ha, decide_eq_true z⟩
theorem len_addK_le (l : List Key) (k : Key) : (addK l k).length ≤ l.length + 1 := by
  rw [len_addK]
  split <;> omega
theorem fold_nd : ∀ (ks l : List Key), l.Nodup → (ks.foldl addK l).Nodup
  | [], _, h => h
  | k :: ks, l, h => fold_nd ks _ (nd_addK h)
theorem fold_len : ∀ (ks l : List Key), (ks.foldl addK l).length ≤ l.length + ks.length
  | [], l => Nat.le_refl _
  | k :: ks, l => by
    have h1 := fold_len ks (addK l k)
    have h2 := len_addK_le l k
    rw [List.foldl_cons, List.length_cons]
    omega
theorem mapO_get {α β : Type} {f : α → Option β} : ∀ {l : List α} {r : List β}, mapO f l = some r → l.length = r.length ∧ ∀ (i : Nat) x, l[i]? = some x → ∃ y, r[i]? = some y ∧ f x = some y
  | [], r, e => by
    cases e
    exact ⟨rfl, fun i x h => by simp at h⟩
  | a :: l, r, e => by
    unfold mapO at e
    split at e
    · rename_i b s e1 e2
      cases e
      obtain ⟨h1, h2⟩ := mapO_get e2
      refine ⟨by simp [h1], fun i x h => ?_⟩
      cases i with
      | zero =>
        simp at h
        subst h
        exact ⟨b, rfl, e1⟩
      | succ i => exact h2 i x (by simpa using h)
    · cases e
theorem firsts_red {mg : Str → Option Value} {W : WX} {C : Calls} {j it : Nat} {ow : List Nat} (h1 : it ∈ ow) {σ : L2.St} {Q : VK} (l1 : it < σ.length) (t : tE K mg W C (.firsts j) σ H Q) :
    tScK K.P K.w (iSeq K.K (tVar j)) (gName it) tYes (tOp (rIxT K.K) (tVar it) (tC (.int 0))) ow σ H Q := by
  obtain ⟨ρ, φ, h, sm, re, o⟩ := t
  have o' : Out K mg (RV K) φ H (atS W σ) Q (firstsP (ρ.get j) h) := o
  unfold firstsP at o'
  split at o'
  rotate_left
  · exact o'.elim
  rename_i n g1
  split at o'
  rotate_left
  · exact o'.elim
  rename_i l hl
  split at o'
  rotate_left
  · exact o'.elim
  rename_i ks hk
  split at o'
  rotate_left
  · exact o'.elim
  rename_i hz
  have e' : ρ[j]? = some (some (.ref n)) := by
    unfold Env.get at g1
    split at g1
    · rename_i q hq
      cases g1
      exact hq
    · cases g1
  obtain ⟨v, s1, a, rfl, ha⟩ := re.get e'
  obtain ⟨a', ho, e1, e2, vs, e3, rv⟩ := sm.ob n _ hl
  have ea : a' = a := Option.some.inj (e1.symm.trans ha)
  subst ea
  subst e3
  obtain ⟨lk, gk⟩ := mapO_get hk
  have lv := rv.length
  refine ⟨_, s1, a', rfl, .inl ⟨⟨vs, .inl (.inl e2)⟩, fun D hD => ?_⟩⟩
  have Dne : a' ≠ D := fun z => by
    rw [z, hD] at e2
    cases e2
  have at_ : ∀ u, SqL K.K (upd H D u) a' vs := fun u => .inl (.inl (by rw [upd_ne Dne]; exact e2))
  refine ⟨fun i m G => m = vs.length - i ∧ i ≤ vs.length ∧ G = upd H D (SetK K.P K.w D (MemK ((ks.take i).foldl addK [])) ((ks.take i).foldl addK []).length), ⟨vs.length, rfl, Nat.zero_le _, rfl⟩, ?_⟩
  rintro i m G ⟨rfl, hi, rfl⟩
  by_cases lt : i < vs.length
  · refine .inr ⟨⟨vs, vs[i], at_ _, List.getElem?_eq_getElem lt⟩, fun G => G = upd H D (SetK K.P K.w D (MemK ((ks.take (i + 1)).foldl addK [])) ((ks.take (i + 1)).foldl addK []).length), fun G' z => ⟨vs.length - (i + 1), by omega, rfl, lt, z⟩, ?_⟩
    rintro x G' ⟨rfl, hx⟩
    have hx := hx vs (at_ _)
    obtain ⟨p, hp⟩ : ∃ p, l[i]? = some p := ⟨_, List.getElem?_eq_getElem (by omega)⟩
    obtain ⟨v', e4, rp⟩ := rv.get hp
    have ev : v' = x := Option.some.inj (e4.symm.trans hx)
    subst ev
    obtain ⟨k, ek, fk⟩ := gk i p hp
    have rp := rp.mono (Ext.new (φ := φ) hD (o := SetK K.P K.w D (MemK ((ks.take i).foldl addK [])) ((ks.take i).foldl addK []).length))
    have wl : (L2.wipe σ ow).length = σ.length := wipe_length σ ow
    refine ⟨by rw [wipe_set h1, wipe_wipe ow fun _ z => z], ?_⟩
    unfold tYes
    simp only [if_true]
    refine ⟨_, List.getElem?_set_self (by omega), ?_⟩
    cases p with
    | tup ps =>
      cases ps with
      | nil => cases fk
      | cons p0 ps =>
        obtain ⟨ad, ws, rfl, hq, rr⟩ := rp
        obtain ⟨w0, ws', rfl, r0, rr'⟩ := rr
        have kw : w0 = kV k := keyOf_rel r0 fk
        subst kw
        have bl := fold_len (ks.take i) []
        rw [List.length_take, List.length_nil] at bl
        refine ⟨ad, kV k :: ws', 0, kV k, rfl, rfl, hq.sq, by simp [atI, ixN], k, _, _, rfl, upd_same, ?_, ?_⟩
        · show _ + 1 < 4096
          omega
        · have et : (ks.take (i + 1)).foldl addK [] = addK ((ks.take i).foldl addK []) k := by
            rw [List.take_add_one, ek, List.foldl_append]
            rfl
          rw [et, mem_addK, len_addK]
          funext c
          by_cases z : c = D
          · subst z
            rw [upd_same, upd_same]
          · rw [upd_ne z, upd_ne z, upd_ne z]
    | _ => cases fk
  · have ei : i = ks.length := by omega
    refine .inl ⟨⟨vs, at_ _, by omega⟩, ?_⟩
    rw [ei, List.take_length]
    have nd := fold_nd ks [] List.nodup_nil
    exact (show Out K mg (RV K) φ H (atS W σ) Q (.ok (.ste (ks.foldl addK [])) h) from o') φ _ (.ref D) (Ext.new hD) (sm.new hD) ⟨D, rfl, upd_same, sm.out hD, nd⟩
end
section
variable {X : Cx} {W : WX} {C : Calls}
theorem je_firsts {et e0 ed tg : Expr} {ps pos : Pos} {scope : Scope} {own : List (Str × Nat)} {j it : Nat} (hc : X.calm = true) (hN : X.N.Nodup) (hd : PE X ed (tVar j)) (ok : BlkOk X.N X.env.scope scope own)
    (hg : ∀ (s : Shared) (H : Hp) (C : Addr) (cl : List (Str × Addr)) (fp : List Addr), PG (X.blk s H scope (compEnvC scope cl C X.env) fp) tg (gName it))
    (ht : ∀ (s : Shared) (H : Hp) (C : Addr) (cl : List (Str × Addr)) (fp : List Addr), PE (X.blk s H scope (compEnvC scope cl C X.env) fp) et (tVar it))
    (hk : ∀ (s : Shared) (H : Hp) (C : Addr) (cl : List (Str × Addr)) (fp : List Addr), PE (X.blk s H scope (compEnvC scope cl C X.env) fp) e0 (tC (.int 0)))
    (hp : PlainIx e0 := by exact fun _ _ => rfl) (l1 : it < X.N.length := by exact Nat.le_of_ble_eq_true rfl) (h1 : it ∈ own.map (·.2) := by decide) (hs : ∀ x, foldedSetIterable ed X.env x = pure x := by intro _; rfl) :
    JE X W C (.SetComp (.Subscript et e0 ps) [⟨tg, ed, [], 0⟩] scope pos) (.firsts j) := by
  have hz : zOf X = ⟨X.K, [], X.prog, X.w⟩ := z_calm hc
  have he : ∀ (s : Shared) (H : Hp) (C : Addr) (cl : List (Str × Addr)) (fp : List Addr), PE (X.blk s H scope (compEnvC scope cl C X.env) fp) (.Subscript et e0 ps) (tOp (rIxT X.K) (tVar it) (tC (.int 0))) := fun s H C cl fp => pe_ix (X := X.blk s H scope (compEnvC scope cl C X.env) fp) ix_tup (ht s H C cl fp) (hk s H C cl fp) hp
  have P := pe_scK (pos := pos) hc hN (pi_seq (tg := tg) hd) ok hg (fun _ _ _ _ _ => pts_nil) he hs
  refine ⟨fun pins s σ H Q I t => P.run pins s σ H Q I ?_⟩
  have r := firsts_red (ow := own.map (·.2)) h1 (by rw [I.len]; exact l1) t
  rw [hz] at r
  exact r
end
end Sb
namespace Sb
open PySem PySem.Spec PyProof.Rows L2
section
variable {X : Cx}
/-- the name is stored while the comprehension's block still stands -/
theorem used_store {pins : List (Addr × Obj)} {s' : Shared} {σ : L2.St} {G : Hp} {D : Ends} {L C : Addr} {m : Str → Option Value} {i : Nat} {y : Str} {py : Pos} (hN : X.N.Nodup) (hy : X.N[i]? = some y) (hyl : X.env.scope.names.lookup y = some .local)
    (I' : Inv X pins σ G s') (q : gName i (.ref L) σ G D.nx) (hn : s'.heap.Ns C m) (f : FpOk X pins G C) :
    compPost (model X.prog X.w) X.A X.xe (some (assign (.Name y py) X.env)) (fun _ s' => SP X pins D .next s') (.ref L) C (.ok .next) s' := by
  show wpAny _ _ (assign (.Name y py) X.env (.ref L)) _ _ _
  obtain ⟨f0, f1, f2, f3, f4, f5⟩ := f
  refine wpAny_assign_Name (store_ok2 (v := V.ref L) I' hN hy (.inl hyl) rfl (fun s2 I2 z => ?_) (.inr hyl))
  obtain ⟨a, sb, ha⟩ := z
  have ne : C ≠ a := ha.elim (fun e => by rw [e]; exact f1) fun e h => f4 y a e h.symm
  exact ⟨m, hn.sameBut sb ne, fun h3 sb3 => ⟨_, G, I2.turned (t' := s2.toks) (fun b o hb e => (sb3.2 b hb).trans e) f0 f1 f3 f4 f5, q⟩⟩
theorem ps_setDc {i : Nat} {y : Str} {py : Pos} {kx vx tg iter : Expr} {ifs : List Expr} {scope : Scope} {own : List (Str × Nat)} {pos spos : Pos} {wi : TI} {g : TG} {tt : TT} {tk tv : TE} (hc : X.calm = true) (hN : X.N.Nodup) (hy : X.N[i]? = some y) (hyl : X.env.scope.names.lookup y = some .local)
    (hsw : swapsWith (.DictComp kx vx [⟨tg, iter, ifs, 0⟩] scope pos) (some (.Name y py)) spos.line X.env = pure true) (hi : PI X tg iter wi) (ok : BlkOk X.N X.env.scope scope own)
    (hg : ∀ (s : Shared) (H : Hp) (C : Addr) (cl : List (Str × Addr)) (fp : List Addr), PG (X.blk s H scope (compEnvC scope cl C X.env) fp) tg g) (ht : ∀ (s : Shared) (H : Hp) (C : Addr) (cl : List (Str × Addr)) (fp : List Addr), PTs (X.blk s H scope (compEnvC scope cl C X.env) fp) ifs tt)
    (hk : ∀ (s : Shared) (H : Hp) (C : Addr) (cl : List (Str × Addr)) (fp : List Addr), PE (X.blk s H scope (compEnvC scope cl C X.env) fp) kx tk)
    (he : ∀ (s : Shared) (H : Hp) (C : Addr) (cl : List (Str × Addr)) (fp : List Addr), PE (X.blk s H scope (compEnvC scope cl C X.env) fp) vx tv) (hs : ∀ x, foldedSetIterable iter X.env x = pure x := by intro _; rfl) :
    PS X (.Assign [.Name y py] (.DictComp kx vx [⟨tg, iter, ifs, 0⟩] scope pos) spos) (tAsg (tDc wi g tt tk tv (own.map (·.2))) (gName i)) := by
  refine ⟨fun pins s σ H D I h => ?_⟩
  rw [exec_Assign_Name_used _ _ _ _ hsw]
  refine wpAny_bind (wpAny_standAt (wpAny_bind ?_))
  show wpAny _ X.A (do let _ ← comprehension (.DictComp kx vx [⟨tg, iter, ifs, 0⟩] scope pos) scope X.env (firstIterPos [⟨tg, iter, ifs, 0⟩] pos) newDict false (eval iter X.env) (some (assign (.Name y py) X.env))) _ _ s
  have h : tDc wi g tt tk tv (own.map (·.2)) σ H (fun x H1 => gName i x σ H1 D.nx) := h
  exact wpAny_bind (thn (dc_core (Qf := fun _ s' => SP X pins D .next s') hc hN I hi ok hg ht hk he hs h fun L C s' m G I' q hn f => used_store hN hy hyl I' q hn f) fun _ s' hq => wpAny_pure (wpAny_pure hq))
theorem swD {kx vx : Expr} {gs : List Comprehension} {scope : Scope} {pos py : Pos} {y : Str} {l : Nat} {env : PySem.Env} (hk : env.scope.kind = .function) (hy : env.scope.names.lookup y = some .local) (hl : (py.line == pos.line) = true)
    (ha : (scope.names.any fun (n, k) => n == y && (k == .local || k == .cell)) = false) : swapsWith (.DictComp kx vx gs scope pos) (some (.Name y py)) l env = pure true := by
  have ky : env.kindOf y = some .local := hy
  have hb : env.blockKind = .function := by unfold PySem.Env.blockKind; rw [hk]; rfl
  unfold swapsWith
  simp only [hb, ky, ha, Expr.pos, hl]
  rfl
/-- a name's value, as the layer reads it -/
theorem pr_var (i : Nat) {x : Str} {pos : Pos} (hN : X.N[i]? = some x := by rfl) (hv : Vis X.env.scope x := by first | exact Or.inl rfl | exact Or.inr (Or.inl rfl) | exact Or.inr (Or.inr rfl)) (hd : (x == ("__debug__" : Str)) = false := by decide)
    (hcd : (x == ("__classdict__" : Str)) = false := by decide) : PE X (.Name x pos) (tVar i) := pe_var hN hv hd hcd
theorem tgs_star {i : Nat} {x : Str} {pos sp : Pos} (hN : X.N.Nodup) (hi : X.N[i]? = some x := by rfl) (hx : Loc X.env.scope x := by first | exact .inl rfl | exact .inr rfl) (hf : X.fn x = true ∨ X.env.scope.names.lookup x = some .local := by first | exact .inl rfl | exact .inr rfl | assumption) : PGs X [.Starred (.Name x pos) sp] (gNs [i]) := pgs_star (pg_name hN hi hx hf) pgs_nil
theorem tg_star {es : List Expr} {kk : Nat} {pos : Pos} {is : List Nat} (n : Nat) (hc : X.calm = true) (h : PGs X es (gNs is)) (hl : is.length = n + 1 := by rfl) (hn : (assignEach es X.env).length = n + 1 := by rfl) (hst : (assignEach es X.env).findIdx? (·.1) = some n := by rfl) : PG X (.Tuple es kk pos) (gT X.K is .star) := by
  show PG X (.Tuple es kk pos) (gStar X.K is.length (gNs is))
  rw [hl]
  exact pg_star hc h hn hst
end
section
variable {X : Cx} {W : WX} {C : Calls}
theorem js_setD {i : Nat} {y : Str} {py : Pos} {kx vx tg iter : Expr} {ifs : List Expr} {scope : Scope} {own : List (Str × Nat)} {pos spos : Pos} {ke ve : E} {is : List Nat} {one : TgK} {k : ITK} {its : List E} {cond : Option E} (hc : X.calm = true) (hN : X.N.Nodup) (hi : JI X W C tg iter k its) (ok : BlkOk X.N X.env.scope scope own)
    (hg : ∀ (s : Shared) (H : Hp) (C : Addr) (cl : List (Str × Addr)) (fp : List Addr), PG (X.blk s H scope (compEnvC scope cl C X.env) fp) tg (gT X.K is one)) (ht : ∀ (s : Shared) (H : Hp) (C' : Addr) (cl : List (Str × Addr)) (fp : List Addr), PTs (X.blk s H scope (compEnvC scope cl C' X.env) fp) ifs (tCond (zOf (X.blk s H scope (compEnvC scope cl C' X.env) fp)) X.mg C cond))
    (hk : ∀ (s : Shared) (H : Hp) (C' : Addr) (cl : List (Str × Addr)) (fp : List Addr), JE (X.blk s H scope (compEnvC scope cl C' X.env) fp) W0 C kx ke)
    (he : ∀ (s : Shared) (H : Hp) (C' : Addr) (cl : List (Str × Addr)) (fp : List Addr), JE (X.blk s H scope (compEnvC scope cl C' X.env) fp) W0 C vx ve) (hy : X.N[i]? = some y := by rfl) (hyl : X.env.scope.names.lookup y = some .local := by rfl)
    (hsw : swapsWith (.DictComp kx vx [⟨tg, iter, ifs, 0⟩] scope pos) (some (.Name y py)) spos.line X.env = pure true := by exact swD rfl rfl rfl (by decide +kernel)) (his : ∀ i ∈ is, i ∈ own.map (·.2) := by decide) (hs : ∀ x, foldedSetIterable iter X.env x = pure x := by intro _; rfl) :
    JS X W C (.Assign [.Name y py] (.DictComp kx vx [⟨tg, iter, ifs, 0⟩] scope pos) spos) (.asg (.nm i) (.dcomp ke ve is one k its cond (own.map (·.2)))) := by
  have hz : zOf X = ⟨X.K, [], X.prog, X.w⟩ := z_calm hc
  have hzb : ∀ (s : Shared) (H : Hp) (cenv : PySem.Env) (fp : List Addr), zOf (X.blk s H scope cenv fp) = ⟨X.K, [], X.prog, X.w⟩ := fun s H cenv fp => z_calm (X := X.blk s H scope cenv fp) hc
  have ht' : ∀ (s : Shared) (H : Hp) (C' : Addr) (cl : List (Str × Addr)) (fp : List Addr), PTs (X.blk s H scope (compEnvC scope cl C' X.env) fp) ifs (tCond ⟨X.K, [], X.prog, X.w⟩ X.mg C cond) := fun s H C' cl fp => by
    have z := ht s H C' cl fp
    rw [hzb] at z
    exact z
  have hk' : ∀ (s : Shared) (H : Hp) (C' : Addr) (cl : List (Str × Addr)) (fp : List Addr), PE (X.blk s H scope (compEnvC scope cl C' X.env) fp) kx (tE ⟨X.K, [], X.prog, X.w⟩ X.mg W0 C ke) := fun s H C' cl fp => by
    have z := hk s H C' cl fp
    unfold JE at z
    rw [hzb] at z
    exact z
  have he' : ∀ (s : Shared) (H : Hp) (C' : Addr) (cl : List (Str × Addr)) (fp : List Addr), PE (X.blk s H scope (compEnvC scope cl C' X.env) fp) vx (tE ⟨X.K, [], X.prog, X.w⟩ X.mg W0 C ve) := fun s H C' cl fp => by
    have z := he s H C' cl fp
    unfold JE at z
    rw [hzb] at z
    exact z
  exact ps_imp (ps_setDc (tk := tE ⟨X.K, [], X.prog, X.w⟩ X.mg W0 C ke) (tv := tE ⟨X.K, [], X.prog, X.w⟩ X.mg W0 C ve) hc hN hy hyl hsw hi ok hg ht' hk' he' hs) fun D σ H t => by
    have t' := asg_red (X := X) (fun _ z => dcomp_red his z) t
    rw [← hz]
    exact t'
theorem js_setM {i : Nat} {y : Str} {py : Pos} {kx em ef en em2 ed : Expr} {elts : List Expr} {kk : Nat} {tpos apos cpos p1 p2 pos spos : Pos} {scope : Scope} {own : List (Str × Nat)} {d nr fr is im : Nat} (hu : X.A.units + 66 < cLine) (hc : X.calm = true) (hN : X.N.Nodup) (hd : PE X ed (tVar d)) (ok : BlkOk X.N X.env.scope scope own)
    (hg : ∀ (s : Shared) (H : Hp) (C : Addr) (cl : List (Str × Addr)) (fp : List Addr), PG (X.blk s H scope (compEnvC scope cl C X.env) fp) (.Tuple elts kk tpos) (gT X.K [is, im] .tup))
    (hk : ∀ (s : Shared) (H : Hp) (C : Addr) (cl : List (Str × Addr)) (fp : List Addr), PE (X.blk s H scope (compEnvC scope cl C X.env) fp) kx (tVar is))
    (hm : ∀ (s : Shared) (H : Hp) (C : Addr) (cl : List (Str × Addr)) (fp : List Addr), PE (X.blk s H scope (compEnvC scope cl C X.env) fp) em (tVar im))
    (hf : ∀ (s : Shared) (H : Hp) (C : Addr) (cl : List (Str × Addr)) (fp : List Addr), PE (X.blk s H scope (compEnvC scope cl C X.env) fp) ef (tVar fr))
    (hn : ∀ (s : Shared) (H : Hp) (C : Addr) (cl : List (Str × Addr)) (fp : List Addr), PE (X.blk s H scope (compEnvC scope cl C X.env) fp) en (tVar nr))
    (hm2 : ∀ (s : Shared) (H : Hp) (C : Addr) (cl : List (Str × Addr)) (fp : List Addr), PE (X.blk s H scope (compEnvC scope cl C X.env) fp) em2 (tVar im))
    (hy : X.N[i]? = some y := by rfl) (hyl : X.env.scope.names.lookup y = some .local := by rfl)
    (hsw : swapsWith (.DictComp kx (.IfExp (.Compare em [.Eq] [ef] p1) en em2 p2) [⟨.Tuple elts kk tpos, .Call (.Attribute ed "items" apos) [] [] cpos, [], 0⟩] scope pos) (some (.Name y py)) spos.line X.env = pure true := by exact swD rfl rfl rfl (by decide +kernel))
    (l1 : is < X.N.length := by exact Nat.le_of_ble_eq_true rfl) (l2 : im < X.N.length := by exact Nat.le_of_ble_eq_true rfl) (h1 : is ∈ own.map (·.2) := by decide) (h2 : im ∈ own.map (·.2) := by decide) (h3 : nr ∉ own.map (·.2) := by decide) (h4 : fr ∉ own.map (·.2) := by decide) (h5 : is ≠ im := by decide)
    (hb : attributeBase ed "items" X.env (eval ed X.env) = eval ed X.env := by rfl) (hl : (apos.endLine == cpos.line) = true := by rfl) (hbm : behindInMarks .Eq ef = false := by rfl)
    (hs : ∀ x, foldedSetIterable (.Call (.Attribute ed "items" apos) [] [] cpos) X.env x = pure x := by intro _; rfl) :
    JS X W C (.Assign [.Name y py] (.DictComp kx (.IfExp (.Compare em [.Eq] [ef] p1) en em2 p2) [⟨.Tuple elts kk tpos, .Call (.Attribute ed "items" apos) [] [] cpos, [], 0⟩] scope pos) spos) (.asg (.nm i) (.remark d nr fr)) := by
  have hz : zOf X = ⟨X.K, [], X.prog, X.w⟩ := z_calm hc
  have hzb : ∀ (s : Shared) (H : Hp) (cenv : PySem.Env) (fp : List Addr), zOf (X.blk s H scope cenv fp) = ⟨X.K, [], X.prog, X.w⟩ := fun s H cenv fp => z_calm (X := X.blk s H scope cenv fp) hc
  have hv : ∀ (s : Shared) (H : Hp) (C : Addr) (cl : List (Str × Addr)) (fp : List Addr), PE (X.blk s H scope (compEnvC scope cl C X.env) fp) (.IfExp (.Compare em [.Eq] [ef] p1) en em2 p2) (tIf (tTest (tOp (fun x y H Q => ∃ W', rOp (zOf X) X.mg W' (zbd .Eq) x y H Q) (tVar im) (tVar fr))) (tVar nr) (tVar im)) := fun s H C cl fp => by
    have z := pt_cmpR (pos := p1) (opr_any fun W' => cmp_ok (X := X.blk s H scope (compEnvC scope cl C X.env) fp) (W := W') hu .Eq) (hm s H C cl fp) (hf s H C cl fp) hbm
    rw [hzb, ← hz] at z
    exact pe_ifExp z (hn s H C cl fp) (hm2 s H C cl fp)
  have P := ps_lock (ps_setDc (spos := spos) (py := py) (pos := pos) hc hN hy hyl hsw (pi_items (elts := elts) (kk := kk) (tpos := tpos) (apos := apos) (cpos := cpos) hd hb hl) ok hg (fun _ _ _ _ _ => pts_nil) hk hv hs)
  refine ⟨fun pins s σ H D I t => P.run pins s σ H D I ?_⟩
  have e : (zOf X).K = X.K := by rw [hz]
  have r := asg_red (X := X) (te := tLockE (tDc (iItems (tVar d)) (gT (zOf X).K [is, im] .tup) tYes (tVar is) (tIf (tTest (tOp (fun x y H Q => ∃ W', rOp (zOf X) X.mg W' (zbd .Eq) x y H Q) (tVar im) (tVar fr))) (tVar nr) (tVar im)) (own.map (·.2)))) (fun Q z => remark_red (ow := own.map (·.2)) h1 h2 h3 h4 h5 (by rw [I.len]; exact l1) (by rw [I.len]; exact l2) z) t
  rw [e] at r
  obtain ⟨d0, u, q1, q2, q3⟩ := r
  exact ⟨d0, u, q1, q2, q3⟩
end
end Sb
namespace Sb
open PySem PySem.Spec PyProof.Rows L2
/-- the class BookError, as its name's attribute __init__ is read -/
structure BkI (K : PySem.W.Frag) (mg : Str → Option Value) (b : Str) : Prop where
  gl : mg b = some (.ref (He.ga K b))
  sp : PySem.W.specialIn K (.ref (He.ga K b)) "__getattribute__" = some (some (.builtin "type.__getattribute__"))
  rd : PySem.W.readsIn K (He.ga K b) (.type "type") = true
  fd : PySem.W.findCls K (.ref (He.ga K b)) (.type "type") "__init__" = some (.val (.builtin "ValueError.__init__"))
section
variable {X : Cx} {o e : Expr} {es : List Expr} {to te : TE} {ta : TA} {f b : Str} {p p' p1 p2 pos : Pos}
theorem pe_binit {pl : Sem Bool} (B : BkI X.K X.mg b) (ha : PA X (e :: es) ta) (hg : Gl X b := by rfl) (hdb : (b == ("__debug__" : Str)) = false := by decide)
    (hc : eval (.Call (.Attribute (.Name b p1) "__init__" p2) (e :: es) [] pos) X.env = (do
      let ov ← eval (.Name b p1) X.env
      standAt p2.atName
      let (f, first) ← holding [ov] (getMethod ov "__init__" pl)
      callWith pos f first (backTo pos (starEach (e :: es) X.env)) (backToKw pos (keywordEach [] X.env))) := by rfl)
    (he : starEach (e :: es) X.env = (false, eval e X.env) :: starEach es X.env := by rfl) (hpl : (backTo pos (starEach es X.env)).any (·.1) = false := by rfl) :
    PE X (.Call (.Attribute (.Name b p1) "__init__" p2) (e :: es) [] pos) (tVeI X.K ta) := by
  refine ⟨fun pins s σ H Q I h => ?_⟩
  refine PySem.W.methodCall_KW (ld_glob I hg B.gl ?_ hdb) hc
  refine PySem.W.method_cls I.kIn B.sp (PySem.W.cls_value I.kIn B.rd B.fd (by decide +kernel) ?_)
  show wpAny _ _ (callWith pos (Value.builtin "ValueError.__init__") [] (backTo pos (starEach (e :: es) X.env)) []) _ _ _
  refine PyProof.Rows.callWith_method1 (thn (ha.run pos pins _ σ H _ (I.tok _) h) fun us s1 ⟨vs, H1, I1, r1, a, C, ws, ev, hl, T, ea, q⟩ => ?_) he hpl
  subst ev
  cases r1 with
  | @cons _ u0 _ ur ra rw' =>
    obtain rfl : u0 = Value.ref a := ra
    have hlen : ur.length ≤ sizeLine := by
      rw [← Paired.length rw', sizeLine_eq]
      omega
    exact oinit_ok T I1 ea hlen fun s' J => ⟨.non, H1, J, rfl, q⟩
end
/-- what an own __init__ keeps -/
def spI (C : Addr) (fs : List Str) : Sp := fun vs H Q _ => ∃ (a : Addr) (ys : List V), vs = .ref a :: ys ∧ ys.length = fs.length ∧ H a = some (exo a C none) ∧ ∀ d, H d = none → d ≠ a → Q .non (upd (upd H d (exd d (fs.zip ys).reverse)) a (exo a C (some d)))
theorem upd_swap3 {H : Hp} {a d : Addr} {A B E : HO} (h : d ≠ a) : upd (upd (upd H d A) a E) d B = upd (upd H d B) a E := by
  funext b
  by_cases h1 : b = d
  · rw [h1, upd_same, upd_ne h, upd_same]
  · by_cases h2 : b = a
    · rw [h2, upd_ne (Ne.symm h), upd_same, upd_same]
    · rw [upd_ne h1, upd_ne h2, upd_ne h1, upd_ne h2, upd_ne h1]
abbrev tI0 (K : PySem.W.Frag) (txt : Str) : TS := tDrop (tVeI K (tCons (tVar 0) (tCons (tC (.str txt)) tNil)))
section
variable {P : Program} {w : World} {K : PySem.W.Frag} {mg : Str → Option Value} {base : Heap} {b qual txt f1 f2 q1 q2 : Str} {params : Arguments} {body : List Stmt} {scope : Scope} {fa C : Addr} {fd : FuncData}
/-- __init__(self, q1): BookError.__init__(self, text); self.f1 = q1 -/
theorem init1 (F : FunD K "__init__" qual params body scope [] [] fa fd) (S : FnScope ["self", q1] ["self", q1] scope) (T : OexC K C) (hn : PySem.W.findIn K (.ref C) f1 = some none)
    (hb : ∀ (cdv : Value) (A : Around) (outer : List PySem.Env) (s : Shared) (H : Hp) (E : XK), PSs (cxOf (L2N.CX P w) P w K mg base ["self", q1] qual scope fa cdv A outer s H E) body (tSeq (tI0 K txt) (tSeq (tOst K f1 (tVar 0) (tVar 1)) tNext))) :
    FnOk P w K mg base (L2N.CX P w) (0 + 1) fa fd ["self", q1] (spI C [f1]) := by
  refine FunD.okC F S (fun vs H Q E h => ?_) fun cdv A outer s H vs Q E hcd hr h => ?_
  · obtain ⟨a, ys, rfl, hl, _⟩ := h
    simp [hl]
  · obtain ⟨a, ys, rfl, hl, ha, q⟩ := h
    obtain ⟨y, rfl⟩ : ∃ y, ys = [y] := by
      match ys, hl with
      | [y], _ => exact ⟨y, rfl⟩
    refine ⟨_, hb cdv A outer s H E, ?_⟩
    refine ⟨.ref a, rfl, a, C, [.str txt], rfl, by simp, T, ha, ?_⟩
    refine ⟨y, rfl, .ref a, rfl, a, C, rfl, T, hn, .inl ⟨ha, fun dx n ne => ?_⟩⟩
    exact q dx n ne
theorem init2 (F : FunD K "__init__" qual params body scope [] [] fa fd) (S : FnScope ["self", q1, q2] ["self", q1, q2] scope) (T : OexC K C) (hn : PySem.W.findIn K (.ref C) f1 = some none) (hn2 : PySem.W.findIn K (.ref C) f2 = some none)
    (hb : ∀ (cdv : Value) (A : Around) (outer : List PySem.Env) (s : Shared) (H : Hp) (E : XK), PSs (cxOf (L2N.CX P w) P w K mg base ["self", q1, q2] qual scope fa cdv A outer s H E) body (tSeq (tI0 K txt) (tSeq (tOst K f1 (tVar 0) (tVar 1)) (tSeq (tOst K f2 (tVar 0) (tVar 2)) tNext)))) :
    FnOk P w K mg base (L2N.CX P w) (0 + 1) fa fd ["self", q1, q2] (spI C [f1, f2]) := by
  refine FunD.okC F S (fun vs H Q E h => ?_) fun cdv A outer s H vs Q E hcd hr h => ?_
  · obtain ⟨a, ys, rfl, hl, _⟩ := h
    simp [hl]
  · obtain ⟨a, ys, rfl, hl, ha, q⟩ := h
    obtain ⟨y, z, rfl⟩ : ∃ y z, ys = [y, z] := by
      match ys, hl with
      | [y, z], _ => exact ⟨y, z, rfl⟩
    refine ⟨_, hb cdv A outer s H E, ?_⟩
    refine ⟨.ref a, rfl, a, C, [.str txt], rfl, by simp, T, ha, ?_⟩
    refine ⟨y, rfl, .ref a, rfl, a, C, rfl, T, hn, .inl ⟨ha, fun dx n ne => ?_⟩⟩
    refine ⟨z, rfl, .ref a, rfl, a, C, rfl, T, hn2, .inr ⟨dx, [(f1, y)], upd_same, by rw [upd_ne ne, upd_same], by simp, ?_⟩⟩
    have := q dx n ne
    rw [← upd_swap3 (A := exd dx [(f1, y)]) ne] at this
    exact this
end
section
variable {X : Cx} {e : Expr} {es : List Expr} {ta : TA} {p pos : Pos}
/-- x(e, ..), x an own class with its own __init__ -/
theorem pmkN {x : Str} {C fI : Addr} {k : Nat} {fd : FuncData} {ps : List Str} {sp : Sp} (T : OexC X.K C) (iC : PySem.W.findIn X.K (.ref C) "__init__" = some (some (.ref fI))) (tI : PySem.W.typeIn X.K (.ref fI) = some (.type "function"))
    (F1 : FnOk X.prog X.w X.K X.mg X.base (L2N.CX X.prog X.w) k fI fd ps sp) (hr : Room (k + 1) X.A) (hb : Binds X.K fd ps []) (hm : X.mg x = some (.ref C)) (ha : PA X (e :: es) ta) (hg : Gl X x)
    (hdb : (x == ("__debug__" : Str)) = false) (he : starEach (e :: es) X.env = (false, eval e X.env) :: starEach es X.env) (hpl : (backTo pos (starEach es X.env)).any (·.1) = false) :
    L2N.PMk X (.Call (.Name x p) (e :: es) [] pos) (tMkO C sp [] ta) := by
  intro pins s σ H Q I h
  obtain ⟨nm, q, N, bs, bm, sn, sub, ab, col, dd, k0, k1, k2, k3, k5, hC, hbm⟩ := T.cls
  refine wpAny_Call_Name_kw (ld_glob I hg hm ?_ hdb)
  refine PySem.W.callWith_K (h₀ := X.base) I.ok.mod.kin T.kC (thn (ha.run pos pins s σ H _ I h) fun us s1 ⟨vs, H1, I1, r1, hz, q1⟩ => ⟨I1.kIn, ?_⟩) he hpl
  show wpAny _ _ (PySem.call (.ref C) us) _ _ _
  obtain ⟨hp, g, dr, tk, os⟩ := s1
  have hsz : hp.objs.size ≤ hp.objs.size + 1 := Nat.le_succ _
  have hn : H1 (hp.objs.size + 1) = none := I1.hok.fresh hsz
  have hq := q1 (hp.objs.size + 1) hn
  have kk : ∀ b o, hp.get? b = some o → ((hp.push (PySem.W.kdv_tup us)).push (PySem.HandSPX.excO C hp.objs.size)).get? b = some o := fun b o e => Heap.get?_push_of_some _ (Heap.get?_push_of_some _ e)
  have hget : ((hp.push (PySem.W.kdv_tup us)).push (PySem.HandSPX.excO C hp.objs.size)).get? (hp.objs.size + 1) = some (PySem.HandSPX.excO C hp.objs.size) := by heap_get
  have I2 : Inv X pins σ (upd H1 (hp.objs.size + 1) (exo (hp.objs.size + 1) C none)) ⟨(hp.push (PySem.W.kdv_tup us)).push (PySem.HandSPX.excO C hp.objs.size), g, dr, tk, os⟩ :=
    I1.laid (t' := tk) (a := hp.objs.size + 1) (o := exo (hp.objs.size + 1) C none) (h' := (hp.push (PySem.W.kdv_tup us)).push (PySem.HandSPX.excO C hp.objs.size)) kk hsz (exo_ok hget)
  have r2 : Vals (V.ref (hp.objs.size + 1) :: (vs ++ [])) (Value.ref (hp.objs.size + 1) :: (us ++ [])) := .cons rfl (r1.append .nil)
  have hl : (Value.ref (hp.objs.size + 1) :: us ++ []).length = ps.length := by
    have e := r2.length
    rw [F1.len _ _ _ _ hq] at e
    exact e.symm
  have hus : us.length ≤ sizeLine := by
    rw [← Paired.length r1, sizeLine_eq]
    omega
  refine wpAny_call (PySem.HandSPX.call_own F.excBase_ValueError (fun Y => PySem.HandSPX.refsVE_contains Y bm hbm) (I1.kIn _ _ hC) (PySem.W.looks_findIn I1.kIn iC) (fun self => PySem.W.bind_fn I1.kIn self tI) hus
    (codeAny_mono (F1.run _ X.stack _ _ ⟨Value.ref (hp.objs.size + 1) :: us, []⟩ (Value.ref (hp.objs.size + 1) :: (us ++ [])) _ _ (fun _ _ _ => False) (hr.make C us []) (I2.env0.make C us []) (show BindsTo _ fd ⟨Value.ref (hp.objs.size + 1) :: us, []⟩ (ps.zip (Value.ref (hp.objs.size + 1) :: (us ++ []))) from hb _ (Value.ref (hp.objs.size + 1) :: us) I2.kIn hl) r2 hq) fun r s' hq' => ?_))
  cases r with
  | error er => exact (cxN_false hq').elim
  | ok fl =>
    cases fl with
    | ret u =>
      obtain ⟨v, H2, os2, bare2, un2, hok2, rv, ev, d, fs, ea, ed, hd1, q2⟩ := hq'
      subst ev
      obtain ⟨h2, g2, d2, t2, os'⟩ := s'
      refine ⟨rv, ?_⟩
      obtain ⟨t0, G, J, kG, ge, hoe, na⟩ := mk_end0 (d2 := d2) (t2 := t2) I1 hsz kk un2 hok2 os2 bare2 ea ed hd1
      exact ⟨hp.objs.size + 1, _, _, ⟨G, g2, d2, t2, os'⟩, _, .ref C, some d, rfl, J, kG, ge, hoe, ⟨rfl, rfl, fun vs e => by cases e; rfl⟩, rfl, rfl, na, rfl, bare2, raises_own T.exC T.tyC, q2⟩
    | next => exact False.elim hq'
    | brk => exact False.elim hq'
    | cont => exact False.elim hq'
end
/-- all that is known of a class x whose exceptions have the fields fs -/
structure XcI (P : Program) (w : World) (K : PySem.W.Frag) (mg : Str → Option Value) (base : Heap) (x : Str) (fs : List Str) : Prop where
  T : OexC K (He.ga K x)
  gl : mg x = some (.ref (He.ga K x))
  ini : ∃ (fI : Addr) (fd : FuncData) (ps : List Str), PySem.W.findIn K (.ref (He.ga K x)) "__init__" = some (some (.ref fI)) ∧ PySem.W.typeIn K (.ref fI) = some (.type "function") ∧ FnOk P w K mg base (L2N.CX P w) (0 + 1) fI fd ps (spI (He.ga K x) fs) ∧ Binds K fd ps []
theorem zip_rev {fs : List Str} : ∀ {ys : List V}, ys.length = fs.length → ((fs.zip ys).reverse.map (·.1)) = fs.reverse ∧ ((fs.zip ys).reverse.map (·.2)) = ys.reverse := by
  intro ys hl
  rw [List.map_reverse, List.map_reverse, List.map_fst_zip (by omega), List.map_snd_zip (by omega)]
  exact ⟨rfl, rfl⟩
theorem RVs.rev {K : ZZ} {φ : List Addr} {H : Hp} : ∀ {ps : List PV} {vs : List V}, RVs K φ H ps vs → RVs K φ H ps.reverse vs.reverse
  | [], vs, r => by
    have : vs = [] := r
    subst this
    exact rfl
  | p :: ps, vs, r => by
    obtain ⟨v, t, e, q, s⟩ := r
    subst e
    rw [List.reverse_cons, List.reverse_cons]
    exact (RVs.rev s).append (RVs.cons q RVs.nil)
section
variable {X : Cx} {W : WX} {C : Calls} {e : Expr} {es : List Expr} {ees : List E} {p pos pos2 : Pos}
theorem js_raise {x : Str} {fs ns : List Str} (I : XcI X.prog X.w X.K X.mg X.base x fs) (hc : X.calm = true) (tk : L2N.Takes X W) (hr : Room 2 X.A) (ha : JA X W C (e :: es) ees) (hl : ees.length = fs.length := by rfl) (hns : ns = fs.reverse := by rfl) (hl9 : fs.length ≤ 9 := by decide) (hg : Gl X x := by rfl)
    (hdb : (x == ("__debug__" : Str)) = false := by decide) (he : starEach (e :: es) X.env = (false, eval e X.env) :: starEach es X.env := by rfl) (hpl : (backTo pos (starEach es X.env)).any (·.1) = false := by rfl) :
    JS X W C (.Raise (some (.Call (.Name x p) (e :: es) [] pos)) none pos2) (.raise x ns ees) := by
  obtain ⟨fI, fd, ps, i1, i2, i3, i4⟩ := I.ini
  refine ps_imp (L2N.ps_raise hc tk (pmkN I.T i1 i2 i3 hr i4 I.gl ha hg hdb he hpl)) fun D σ H ⟨ρ, φ, h, sm, re, o⟩ => ?_
  have o' : OutS (zOf X) X.mg φ H W D ((evGs C ees ρ h).st ρ fun l h1 => .ex ⟨x, ns, l.reverse⟩ ρ h1) := o
  have llen : ∀ (es : List E) (ρ : Env) (h : PH) l h1, evGs C es ρ h = .ok l h1 → l.length = es.length := by
    intro es
    induction es with
    | nil =>
      intro ρ h l h1 q
      cases q
      rfl
    | cons a r ih =>
      intro ρ h l h1 q
      have q' : ((evG C a false ρ h).bind fun x h1 => (evGs C r ρ h1).bind fun l h2 => R.ok (x :: l) h2) = .ok l h1 := q
      cases q1 : evG C a false ρ h with
      | no => rw [q1] at q'; cases q'
      | ex y hh => rw [q1] at q'; cases q'
      | ok v hh =>
        rw [q1, R.bind_ok] at q'
        cases q2 : evGs C r ρ hh with
        | no => rw [q2] at q'; cases q'
        | ex y hh => rw [q2] at q'; cases q'
        | ok l2 hh2 =>
          rw [q2, R.bind_ok] at q'
          cases q'
          rw [List.length_cons, List.length_cons, ih _ _ _ _ q2]
  refine ⟨ρ, φ, h, sm, re, ?_⟩
  have key := OutS.st (rel := RVs (zOf X)) re o'
  cases eq : evGs C ees ρ h with
  | no => rw [eq] at key; exact key
  | ex y h1 => rw [eq] at key; exact key
  | ok l h1 =>
    rw [eq] at key
    have ll := llen _ _ _ _ _ eq
    intro φ1 H1 vs x1 s1 r1
    have lv := r1.length
    have o1 : OutS (zOf X) X.mg φ H W D (.ex ⟨x, ns, l.reverse⟩ ρ h1) := by
      rw [eq] at o'
      exact o'
    refine ⟨by omega, fun a na => ?_⟩
    rw [List.append_nil]
    refine ⟨a, vs, rfl, by omega, upd_same, fun d dn dne => ?_⟩
    rw [upd_ne dne] at dn
    refine ⟨rfl, d, (fs.zip vs).reverse, upd_same, by rw [upd_ne dne, upd_same], dn, ?_⟩
    have eH : upd (del (upd (upd (upd H1 a (exo a (He.ga X.K x) none)) d (exd d (fs.zip vs).reverse)) a (exo a (He.ga X.K x) (some d))) a) d (.xd (fs.zip vs).reverse) = upd H1 d (.xd (fs.zip vs).reverse) := by
      funext b
      by_cases h1 : b = d
      · rw [h1, upd_same, upd_same]
      · rw [upd_ne h1, upd_ne h1]
        by_cases h2 : b = a
        · rw [h2, del_same, na]
        · rw [del_ne h2, upd_ne h2, upd_ne h1, upd_ne h2]
    rw [eH]
    have dφ : d ∉ φ1 := fun hm => by
      obtain ⟨n, hn⟩ := List.getElem?_of_mem hm
      have hlt : n < h1.length := by
        rw [← s1.len]
        exact (List.getElem?_eq_some_iff.mp hn).1
      obtain ⟨b, ho, z1, z2, _⟩ := s1.ob n _ (List.getElem?_eq_getElem hlt)
      rw [hn] at z1
      cases z1
      rw [dn] at z2
      cases z2
    have zr := zip_rev (fs := fs) (ys := vs) (by omega)
    refine o1 φ1 _ σ _ _ (x1.trans (Ext.new dn)) (s1.new dn) ((re.mono x1).mono (Ext.new dn)) ⟨rfl, (fs.zip vs).reverse, .inr ⟨d, rfl, upd_same, dφ⟩, ?_, ?_⟩
    · rw [zr.1, hns]
    · rw [zr.2]
      exact (RVs.rev r1).mono (Ext.new dn)
end
/-- what is known of a class's name in a handler -/
structure HdI (K : PySem.W.Frag) (mg : Str → Option Value) (c : Str) (xs : List Str) : Prop where
  gl : mg c = some (.ref (He.ga K c))
  mt : ∀ y ∈ xs, PySem.W.exmOne K (.ref (He.ga K y)) (.ref (He.ga K c)) = some (decide (y = c))
section
variable {X : Cx} {W : WX} {C : Calls} {k i j : Nat} {c n : Str} {xs : List Str} {body : List Stmt} {ss : List S} {np p1 p2 p3 pos' pos : Pos}
/-- try: body  except c: n = None -/
theorem js_tryN (cq : Cq X W k) (hd : HdI X.K X.mg c xs) (hb : ∀ (W : WX) (pn : List (Addr × Obj)) (xe : Value → Shared → Prop), Cq (X.tr pn xe) W k → JSs (X.tr pn xe) W C body ss)
    (hs : X.stack = X.env :: X.outer := by rfl) (hf : X.env.frame = some X.env.locals := by rfl) (hi : X.N[i]? = some n := by rfl) (hg : Gl X c := by rfl) (hdb : (c == ("__debug__" : Str)) = false := by decide)
    (hx : Loc X.env.scope n := by first | exact .inl rfl | exact .inr rfl) (hl : X.env.scope.names.lookup n = some .local := by rfl) (hsw : swapsWith (.Constant .none j p2) (some (.Name n p1)) p3.line X.env = pure false := by rfl) :
    JS X W C (.Try body [.ExceptHandler (some (.Name c np)) none [.Assign [.Name n p1] (.Constant .none j p2) p3] pos'] [] [] pos) (.tryN ss c xs [.asg (.nm i) (.lit .non)]) := by
  have hz : zOf X = ⟨X.K, [], X.prog, X.w⟩ := z_calm cq.calm
  have hzt : ∀ (pn : List (Addr × Obj)) (xe : Value → Shared → Prop), zOf (X.tr pn xe) = ⟨X.K, [], X.prog, X.w⟩ := fun pn xe => z_calm (X := X.tr pn xe) cq.calm
  refine ps_imp (L2N.ps_try_many (tb := fun W' => tSs ⟨X.K, [], X.prog, X.w⟩ X.mg W' C ss) (Wout := W) hs hf cq.tk (fun W' pn xe tk po => ?_) (L2N.HdsOk.cons (ts := fun _ _ _ => tSeq (tAsg (tC .non) (gName i)) tNext) ⟨hg, hdb, .inl hd.gl⟩ (fun a oe cls d pn _ _ => ?_) .nil)) fun D σ H ⟨ρ, φ, h, sm, re, o⟩ => ?_
  · have := hb W' pn xe ⟨cq.calm, cq.nd, cq.hr, tk, po⟩
    rw [JSs, hzt] at this
    exact this
  · exact pss_cons (ps_set (X := X.suite a ((a, oe) :: pn)) cq.nd hi hx pe_non hsw (.inr hl)) pss_nil
  · rw [hz] at sm re o
    refine ⟨ρ, φ, h, sm, re, ?_⟩
    have o' : OutS ⟨X.K, [], X.prog, X.w⟩ X.mg φ H W D (match exSs C ss ρ h with
      | .ex x ρ1 h1 => if x.cls ∈ xs then (if x.cls = c then exSs C [.asg (.nm i) (.lit .non)] ρ1 h1 else .ex x ρ1 h1) else .no
      | r => r) := o
    cases e : exSs C ss ρ h with
    | nx ρ1 h1 => rw [e] at o'; exact o'
    | rt v h1 => rw [e] at o'; exact o'
    | bk ρ1 h1 => rw [e] at o'; exact o'
    | ct ρ1 h1 => rw [e] at o'; exact o'
    | no => rw [e] at o'; exact o'
    | ex x ρ1 h1 =>
      rw [e] at o'
      simp only at o'
      intro φ' H' σ' cls d x1 s1 r1 rx
      by_cases hm : x.cls ∈ xs
      · rw [if_pos hm] at o'
        obtain ⟨ec, fs, _⟩ := id rx
        refine ⟨decide (x.cls = c), by rw [ec]; exact hd.mt _ hm, fun hy a na => ?_, fun hn => ?_⟩
        · rw [if_pos (of_decide_eq_true hy)] at o'
          have o2 : OutS ⟨X.K, [], X.prog, X.w⟩ X.mg φ H W D (.nx (ρ1.set i (some .non)) h1) := o'
          exact o2 φ' H' _ x1 s1 (RE.set i (show RV _ _ _ PV.non V.non from rfl) r1)
        · rw [if_neg (of_decide_eq_false hn)] at o'
          exact o' φ' H' σ' cls d x1 s1 r1 rx
      · rw [if_neg hm] at o'
        exact (show False from o').elim
end
theorem bkB_ok {K : PySem.W.Frag} {h : Heap} {mg : Str → Option Value} (X : K.In h) (G : h.Ns mainGlobals mg) {b : Str} (c : bkB K b = true) : BkI K mg b := by
  obtain ⟨c1, c⟩ := He.ba c
  obtain ⟨c2, c⟩ := He.ba c
  obtain ⟨c3, c4⟩ := He.ba c
  refine ⟨He.glo_ok X G c1, He.eqO_ok c2, c3, ?_⟩
  split at c4
  · rename_i n e
    rw [e, of_decide_eq_true c4]
  · cases c4
theorem oexB_ok {K : PySem.W.Frag} {C : Addr} (c : oexB K C = true) : OexC K C := by
  obtain ⟨c1, c⟩ := He.ba c
  obtain ⟨c2, c⟩ := He.ba c
  obtain ⟨c3, c⟩ := He.ba c
  obtain ⟨c4, c5⟩ := He.ba c
  refine ⟨?_, He.eqO_ok c2, of_decide_eq_true c3, of_decide_eq_true c4, c5⟩
  split at c1
  · rename_i dd cd sl ho
    split at c1
    · rename_i C' bm k0 k1 k2 k3 n k5 hm hs
      simp only [Bool.and_eq_true, beq_iff_eq, Bool.not_eq_true'] at c1
      obtain ⟨⟨⟨⟨rfl, rfl⟩, hdel⟩, hd⟩, hv⟩ := c1
      obtain ⟨nm, bs, mro, ns, qn, hdd, sn, sub, ab, col, del⟩ := cd
      dsimp only at hm hdel hd
      subst hm hdel hd
      have hsl : sl = #[k0, k1, k2, k3, some (.builtin "ValueError.__new__"), k5] := by
        obtain ⟨l⟩ := sl
        simp only at hs
        rw [hs]
      subst hsl
      exact ⟨nm, qn, ns, bs, bm, sn, sub, ab, col, dd, k0, k1, k2, k3, k5, ho, hv⟩
    · cases c1
  · cases c1
/-- the class x, its __init__, no attribute of the fields' names -/
theorem xcB_ok {K : PySem.W.Frag} {h : Heap} {mg : Str → Option Value} (X : K.In h) (G : h.Ns mainGlobals mg) {x : Str} {fs : List Str} (c : xcB K x fs = true) : OexC K (He.ga K x) ∧ mg x = some (.ref (He.ga K x)) ∧ PySem.W.findIn K (.ref (He.ga K x)) "__init__" = some (some (.ref (He.ma K (He.ga K x) "__init__"))) ∧ PySem.W.typeIn K (.ref (He.ma K (He.ga K x) "__init__")) = some (.type "function") ∧ ∀ f ∈ fs, PySem.W.findIn K (.ref (He.ga K x)) f = some none := by
  obtain ⟨c1, c⟩ := He.ba c
  obtain ⟨c2, c⟩ := He.ba c
  obtain ⟨c3, c⟩ := He.ba c
  obtain ⟨c4, c5⟩ := He.ba c
  exact ⟨oexB_ok c1, He.glo_ok X G c2, He.eqO_ok c3, of_decide_eq_true c4, fun f hf => He.eqO_ok (List.all_eq_true.mp c5 f hf)⟩
theorem hdB_ok {K : PySem.W.Frag} {h : Heap} {mg : Str → Option Value} (X : K.In h) (G : h.Ns mainGlobals mg) {c : Str} {xs : List Str} (e : hdB K c xs = true) : HdI K mg c xs := by
  obtain ⟨c1, c2⟩ := He.ba e
  exact ⟨He.glo_ok X G c1, fun y hy => of_decide_eq_true (List.all_eq_true.mp c2 y hy)⟩
end Sb
namespace Sb
open PySem PySem.Spec PyProof.Rows L2
/-- what the head says of all classes of refusals -/
structure XkI (K : PySem.W.Frag) : Prop where
  c : ∀ x ∈ excAll, (PySem.W.clsIn K (He.ga K x)).isSome = true ∧ PySem.W.findIn K (.ref (He.ga K x)) "__getattribute__" = some (some (.builtin "BaseException.__getattribute__")) ∧ PySem.W.findIn K (.ref (He.ga K x)) "__getattr__" = some none ∧ PySem.W.subIn K (.ref (He.ga K x)) (.type "BaseException") = some true ∧
    PySem.W.findIn K (.ref (He.ga K x)) "__class__" = some (some (.builtin "object.__class__")) ∧ PySem.W.mroIn K (He.ga K x) (.type "object") = some true
  hn : PySem.W.specialIn K (.builtin "object.__class__") "__get__" = some (some (.builtin "getset_descriptor.__get__"))
  ht : PySem.W.takesIn K (.builtin "object.__class__") = some true
  kit : ∀ x ∈ excAll, ∀ c, (c ∈ excAll ∨ c = "BookError") → PySem.W.kitOne K (.ref (He.ga K x)) (.ref (He.ga K c)) = some (decide (x = c) || decide (c = "BookError"))
  kiv : ∀ x ∈ excAll, PySem.W.kitOne K (.ref (He.ga K x)) (.type "ValueError") = some true
section
variable {X : Cx} {W : XK}
theorem hot_mem {p : Addr × Obj} (h : p ∈ hotPn X) : p ∈ X.pn := by
  unfold hotPn at h
  split at h
  · cases h
  · exact List.mem_of_mem_take h
theorem zby (k : XkI X.K) : CallR X (.builtin "isinstance") (rCa (zOf X) X.mg W biIsx) := by
  intro pins s σ H vs us Q I rv hh
  obtain ⟨φ, h, ps, sm, r, o⟩ := hh
  unfold biIsx at o
  split at o
  · rename_i x ns l c
    obtain ⟨v, w, e, q, q2⟩ := r.two
    subst e
    split at o
    · rename_i b eb
      obtain ⟨a, oe, rfl, hp, hc, ⟨vs, hd⟩, hdd⟩ := q
      have q2' : w = if c = "ValueError" then V.ty "ValueError" else .ref (He.ga X.K c) := q2
      unfold isX at eb
      split at eb
      · rename_i hx
        obtain ⟨hx, hcc⟩ := hx
        cases eb
        obtain ⟨hget, _⟩ := I.pin (a, oe) (List.mem_append_left _ (hot_mem hp))
        obtain ⟨k1, k2, k3, k4, k5, k6⟩ := k.c x hx
        obtain ⟨u1, u2, rfl, r1, r2⟩ := vals2 rv
        obtain rfl : u1 = Value.ref a := r1
        have J : ∃ od, PySem.W.InstAt s.heap a oe (He.ga X.K x) od := by
          rcases hdd with ⟨hn, _⟩ | ⟨dd, fs, us', e1, e2, _⟩
          · refine ⟨none, hget, hc, by unfold PySem.W.notCls; rw [hd] <;> rfl, ?_⟩
            rw [hn]
            trivial
          · have hx2 : ObjOk X.prog X.w H s.heap dd (.xd fs) := I.hok dd _ e2
            obtain ⟨mA, hns, _⟩ := hx2
            obtain ⟨od, ho, _⟩ := lookIn_ns hns
            refine ⟨some od, hget, hc, by unfold PySem.W.notCls; rw [hd] <;> rfl, ?_⟩
            rw [e1]
            exact ho
        obtain ⟨od, J⟩ := J
        have fin : ∀ (cv : Value), u2 = cv → PySem.W.kitOne X.K (.ref (He.ga X.K x)) cv = some (decide (x = c) || decide (c = "BookError") || decide (c = "ValueError")) → wpAny (model X.prog X.w) X.A (PySem.call (.builtin "isinstance") [.ref a, u2]) (EP X pins σ Q) X.xe s := fun cv ec hk => by
          rw [ec]
          exact PySem.W.kia_one (PySem.W.kitx_exc (ox := oe) (od := od) k1 k2 k3 k4 k5 k.hn k.ht k6) I.kIn J hk (fun z => nomatch z) fun tk => ⟨.bl _, H, I.kept (t' := tk) fun _ _ z => z, rfl, o.at sm rfl⟩
        by_cases hv : c = "ValueError"
        · rw [if_pos hv] at q2'
          rw [q2'] at r2
          refine fin (.type "ValueError") r2 ?_
          rw [k.kiv x hx, hv]
          simp
        · rw [if_neg hv] at q2'
          rw [q2'] at r2
          refine fin (.ref (He.ga X.K c)) r2 ?_
          have hc2 : c ∈ excAll ∨ c = "BookError" := by
            rcases hcc with z | z | z
            · exact .inl z
            · exact .inr z
            · exact absurd z hv
          rw [k.kit x hx c hc2]
          simp [hv]
      · cases eb
    · exact o.elim
  · exact o.elim
end
section
variable {X : Cx} {W : XK}
theorem bools_vals : ∀ {bs : List Bool} {us : List Value}, Vals (bs.map V.bl) us → us = bs.map Value.bool
  | [], us, r => by cases r; rfl
  | b :: bs, us, r => by
    cases r with
    | cons h t =>
      rw [bools_vals t]
      exact congrArg (· :: _) h
theorem bools_reads {h : Heap} : ∀ bs : List Bool, ReadsAll h (bs.map Value.bool) (bs.map PyData.bool) []
  | [] => .nil
  | b :: bs => .cons (.bool b) (bools_reads bs)
theorem mt_count_ok (hu : X.A.units + 66 < cLine) : MtR X "list.count" (rMt (zOf X) X.mg W mtCount) := by
  intro pins s σ H x xs v us Q I rx rs hh
  obtain ⟨φ, h, p, ps, sm, r, r2, o⟩ := hh
  unfold mtCount at o
  split at o
  · rename_i n b
    split at o
    · rename_i l e1
      split at o
      · rename_i bs e2
        obtain ⟨ad, vs, f1, g1, r1⟩ := sm.lst e1
        obtain ⟨b1, hx, q1⟩ := r
        rw [f1] at q1
        cases q1
        obtain ⟨w, e, q⟩ := r2.one
        subst e
        subst hx
        obtain rfl : v = Value.ref ad := rx
        have ew : w = .bl b := q
        subst ew
        have eu : us = [.bool b] := by
          cases rs with
          | cons h1 h2 =>
            cases h2
            exact congrArg (· :: []) h1
        subst eu
        rw [bools_rel r1 e2] at g1
        obtain ⟨its, rv, hl, hz⟩ := I.list (show SqL X.K H ad (bs.map V.bl) from .inl (.inl g1))
        have ei := bools_vals rv
        have pl : ∀ cs : List Bool, PyData.plainAll (cs.map PyData.bool) = true := fun cs => by
          induction cs with
          | nil => rfl
          | cons c cs ih => simpa [PyData.plainAll, PyData.plain] using ih
        refine PySem.SeqAt.count_list_data (vs := its.toArray) (xs := bs.map PyData.bool) (d := .bool b) hl.isList (by rw [ei]; exact bools_reads bs) (.bool b) (pl bs) rfl ?_ ⟨.int _, H, I.tok _, ⟨_, rfl⟩, ?_⟩
        · have : (PyData.bool b).depth ≤ 1 := by unfold PyData.depth; omega
          have m := Nat.min_le_right (PyData.depthAll (bs.map PyData.bool)) (PyData.bool b).depth
          omega
        · have ec : (bs.map PyData.bool).countP (fun y => PyData.eqv y (.bool b)) = bs.countP fun c => c == b := by
            rw [List.countP_map]
            congr 1
          rw [ec]
          exact o.at sm rfl
      · exact o.elim
    · exact o.elim
  · exact o.elim
end
theorem _root_.L2H.RoomH.u66 {k : Nat} {A : Around} (r : L2H.RoomH k A) : A.units + 66 < cLine := by have := r.un; omega
structure FnP (P : Program) (w : World) (K : PySem.W.Frag) (mg : Str → Option Value) (base : Heap) (k : Nat) (f : Addr) (fd : FuncData) (ps : List Str) (sp : Addr × Obj → Sp) : Prop where
  len : ∀ p vs H Q E, sp p vs H Q E → vs.length = ps.length
  run : ∀ (A : Around) (outer : List PySem.Env) (s : Shared) (H : Hp) (args : Args) (us : List Value) (vs : List V) (Q : VK) (E : XK) (p : Addr × Obj), L2H.RoomH k A → L2H.Hot1 A p → L2H.PinOk outer H s p → Env0 P w K mg base A outer s H → BindsTo s fd args (ps.zip us) → Vals vs us → sp p vs H Q E →
    codeAny (model P w) A (.call (.ref f) args) (CR (L2N.CX P w) outer P w H s Q E) s
abbrev cxP (P : Program) (w : World) (K : PySem.W.Frag) (mg : Str → Option Value) (base : Heap) (N : List Str) (qual : Str) (scope : Scope) (f : Addr) (cdv : Value) (A : Around) (outer : List PySem.Env) (s : Shared) (H : Hp) (E : XK) (p : Addr × Obj) : Cx := L2H.cxH (L2N.CX P w) P w K mg base N qual scope f cdv A outer s H E p
theorem RE.length {K : ZZ} {φ : List Addr} {H : Hp} : ∀ {ρ : Env} {σ : L2.St}, RE K φ H ρ σ → σ.length = ρ.length
  | [], σ, h => by rw [show σ = [] from h]; rfl
  | q :: ρ, σ, h => by
    obtain ⟨w, r, e1, k, s⟩ := h
    rw [e1, List.length_cons, List.length_cons, RE.length s]
theorem fl_lookup {K : ZZ} {φ : List Addr} {H : Hp} {f : Str} : ∀ {gs : List (Str × V)} {vs : List PV} {p : PV}, RVs K φ H vs (gs.map (·.2)) → ((gs.map (·.1)).zip vs).lookup f = some p → ∃ v, gs.lookup f = some v ∧ RV K φ H p v
  | [], vs, p, r, e => by
    have : vs = [] := by
      cases vs with
      | nil => rfl
      | cons a b =>
        obtain ⟨v, t, e', _⟩ := r
        cases e'
    subst this
    cases e
  | g :: gs, [], p, r, e => by cases e
  | g :: gs, q :: vs, p, r, e => by
    obtain ⟨v, t, e', rq, rs⟩ := r
    obtain ⟨g1, g2⟩ := g
    simp only [List.map_cons, List.cons.injEq] at e'
    obtain ⟨rfl, rfl⟩ := e'
    simp only [List.map_cons, List.zip_cons_cons, List.lookup_cons] at e
    rw [List.lookup_cons]
    cases h : f == g1 with
    | true =>
      rw [h] at e
      cases e
      exact ⟨_, rfl, rq⟩
    | false =>
      rw [h] at e
      exact fl_lookup rs e
theorem zcb {X : Cx} {W : WX} {C : Calls} {x : Str} {pos : Pos} (hm : X.mg x = some (.ref (He.ga X.K x))) (hv : x ≠ "ValueError" := by decide +kernel) (hg : Gl X x := by rfl) (hd : (x == ("__debug__" : Str)) = false := by decide) : JE X W C (.Name x pos) (.lit (.cls x)) :=
  je_glob (v := .ref (He.ga X.K x)) hm rfl (fun φ H => by show _ = if x = "ValueError" then _ else _; rw [if_neg hv]) hg hd
theorem je_ve {X : Cx} {W : WX} {C : Calls} {pos : Pos} (hm : X.mg "ValueError" = none) (hg : Gl X "ValueError" := by rfl) : JE X W C (.Name "ValueError" pos) (.lit (.cls "ValueError")) :=
  je_lit (pe_bltn (v := .ty "ValueError") hg hm PyProof.Rows.Boot.«ValueError» rfl (by decide) (by decide)) fun φ H => by show _ = if ("ValueError" : Str) = "ValueError" then _ else _; rw [if_pos rfl]
theorem bk_not : ("BookError" : Str) ∉ excAll := by decide +kernel
theorem xkB_ok {K : PySem.W.Frag} (e : xkB K = true) : XkI K := by
  obtain ⟨e1, e⟩ := He.ba e
  obtain ⟨e2, e⟩ := He.ba e
  have all := List.all_eq_true.mp e
  have part : ∀ x ∈ excAll, _ := fun x hx => by
    have z := all x hx
    obtain ⟨z1, z⟩ := He.ba z
    obtain ⟨z2, z⟩ := He.ba z
    obtain ⟨z3, z⟩ := He.ba z
    obtain ⟨z4, z⟩ := He.ba z
    obtain ⟨z5, z⟩ := He.ba z
    obtain ⟨z6, z⟩ := He.ba z
    obtain ⟨z7, z⟩ := He.ba z
    obtain ⟨z8, z9⟩ := He.ba z
    exact (⟨⟨z1, He.eqO_ok z2, He.eqO_ok z3, of_decide_eq_true z4, He.eqO_ok z5, of_decide_eq_true z6⟩, fun c hc => of_decide_eq_true (List.all_eq_true.mp z7 c hc), of_decide_eq_true z8, of_decide_eq_true z9⟩ :
      ((PySem.W.clsIn K (He.ga K x)).isSome = true ∧ PySem.W.findIn K (.ref (He.ga K x)) "__getattribute__" = some (some (.builtin "BaseException.__getattribute__")) ∧ PySem.W.findIn K (.ref (He.ga K x)) "__getattr__" = some none ∧ PySem.W.subIn K (.ref (He.ga K x)) (.type "BaseException") = some true ∧ PySem.W.findIn K (.ref (He.ga K x)) "__class__" = some (some (.builtin "object.__class__")) ∧ PySem.W.mroIn K (He.ga K x) (.type "object") = some true) ∧
      (∀ c ∈ excAll, PySem.W.kitOne K (.ref (He.ga K x)) (.ref (He.ga K c)) = some (decide (x = c))) ∧ PySem.W.kitOne K (.ref (He.ga K x)) (.ref (He.ga K "BookError")) = some true ∧ PySem.W.kitOne K (.ref (He.ga K x)) (.type "ValueError") = some true)
  refine ⟨fun x hx => (part x hx).1, He.eqO_ok e1, of_decide_eq_true e2, fun x hx c hc => ?_, fun x hx => (part x hx).2.2.2⟩
  rcases hc with hc | hc
  · rw [(part x hx).2.1 c hc, decide_eq_false (fun z : c = "BookError" => bk_not (by rw [← z]; exact hc)), Bool.or_false]
  · rw [hc, (part x hx).2.2.1]
    simp
end Sb
namespace Sb
open PySem PySem.Spec PyProof.Rows L2
section
variable {K : PySem.W.Frag} {P : Program} {w : World} {φ : List Addr} {H : Hp} {pn pn' : List (Addr × Obj)}
mutual
theorem RV.cold : ∀ {p : PV} {v : V}, RV ⟨K, [], P, w⟩ φ H p v → coldV p = true
  | .non, _, _ => rfl
  | .bl _, _, _ => rfl
  | .int _, _, _ => rfl
  | .str _, _, _ => rfl
  | .ty _, _, _ => rfl
  | .ref _, _, _ => rfl
  | .tup l, v, h => by
    obtain ⟨a, vs, e, q, r⟩ := h
    exact RVs.cold (p := l) r
  | .cl l, v, h => by
    obtain ⟨a, vs, e, q, r⟩ := h
    exact RVs.cold (p := l) r
  | .cls _, _, _ => rfl
  | .xc _ _ _, v, h => by
    obtain ⟨a, oe, e, q, _⟩ := h
    cases q
  | .ste _, _, _ => rfl
theorem RVs.cold : ∀ {p : List PV} {v : List V}, RVs ⟨K, [], P, w⟩ φ H p v → coldVs p = true
  | [], _, _ => rfl
  | p :: ps, vs, h => by
    obtain ⟨v, r, e, q, s⟩ := h
    exact Bool.and_eq_true_iff.mpr ⟨RV.cold q, RVs.cold (p := ps) s⟩
end
mutual
theorem RV.repin : ∀ {p : PV} {v : V}, coldV p = true → RV ⟨K, pn, P, w⟩ φ H p v → RV ⟨K, pn', P, w⟩ φ H p v
  | .non, _, _, h => h
  | .bl _, _, _, h => h
  | .int _, _, _, h => h
  | .str _, _, _, h => h
  | .ty _, _, _, h => h
  | .ref _, _, _, h => h
  | .tup l, v, c, h => by
    obtain ⟨a, vs, e, q, r⟩ := h
    exact ⟨a, vs, e, q, RVs.repin (p := l) c r⟩
  | .cl l, v, c, h => by
    obtain ⟨a, vs, e, q, r⟩ := h
    exact ⟨a, vs, e, q, RVs.repin (p := l) c r⟩
  | .cls _, _, _, h => h
  | .xc _ _ _, v, c, h => by cases c
  | .ste _, _, _, h => h
theorem RVs.repin : ∀ {p : List PV} {v : List V}, coldVs p = true → RVs ⟨K, pn, P, w⟩ φ H p v → RVs ⟨K, pn', P, w⟩ φ H p v
  | [], _, _, h => h
  | p :: ps, vs, c, h => by
    obtain ⟨v, r, e, q, s⟩ := h
    obtain ⟨c1, c2⟩ := Bool.and_eq_true_iff.mp c
    exact ⟨v, r, e, RV.repin c1 q, RVs.repin (p := ps) c2 s⟩
end
theorem RO.cold {o : PO} {ho : HO} (h : RO ⟨K, [], P, w⟩ φ H o ho) : coldO o = true := by
  cases o with
  | lst l =>
    obtain ⟨vs, e, r⟩ := h
    exact RVs.cold (p := l) r
  | dct l =>
    obtain ⟨kvs, e, k, r⟩ := h
    exact RVs.cold r
  | obj c fs =>
    obtain ⟨dx, kvs, e, k, r⟩ := h
    exact RVs.cold r
theorem RO.repin {o : PO} {ho : HO} (c : coldO o = true) (h : RO ⟨K, pn, P, w⟩ φ H o ho) : RO ⟨K, pn', P, w⟩ φ H o ho := by
  cases o with
  | lst l =>
    obtain ⟨vs, e, r⟩ := h
    exact ⟨vs, e, RVs.repin (p := l) c r⟩
  | dct l =>
    obtain ⟨kvs, e, k, r⟩ := h
    exact ⟨kvs, e, k, RVs.repin c r⟩
  | obj c fs =>
    obtain ⟨dx, kvs, e, k, r⟩ := h
    exact ⟨dx, kvs, e, k, RVs.repin c r⟩
theorem Sim.cold {h : PH} (s : Sim ⟨K, [], P, w⟩ φ h H) {n : Nat} {o : PO} (e : h[n]? = some o) : coldO o = true := by
  obtain ⟨a, ho, _, _, r⟩ := s.ob n o e
  exact r.cold
theorem Sim.repin {h : PH} (s : Sim ⟨K, pn, P, w⟩ φ h H) (c : ∀ (n : Nat) (o : PO), h[n]? = some o → coldO o = true) : Sim ⟨K, pn', P, w⟩ φ h H :=
  ⟨s.len, s.nd, fun n o e => by
    obtain ⟨a, ho, e1, e2, r⟩ := s.ob n o e
    exact ⟨a, ho, e1, e2, r.repin (c n o e)⟩, s.tb⟩
theorem RE.cold : ∀ {ρ : Env} {σ : L2.St} {n : Nat} {p : PV}, RE ⟨K, [], P, w⟩ φ H ρ σ → ρ[n]? = some (some p) → coldV p = true := fun r e => by
  obtain ⟨v, _, q⟩ := r.get e
  exact q.cold
theorem RE.repin : ∀ {ρ : Env} {σ : L2.St}, RE ⟨K, pn, P, w⟩ φ H ρ σ → (∀ (n : Nat) (p : PV), ρ[n]? = some (some p) → coldV p = true) → RE ⟨K, pn', P, w⟩ φ H ρ σ
  | [], _, h, _ => h
  | q :: ρ, σ, h, c => by
    obtain ⟨v, r, e, k, s⟩ := h
    refine ⟨v, r, e, fun x z => ?_, RE.repin s fun n p z => c (n + 1) p (by simpa using z)⟩
    obtain ⟨y, e1, e2⟩ := k x z
    exact ⟨y, e1, e2.repin (c 0 x (by rw [z]; rfl))⟩
end
def offS (i : Option Nat) (σ : L2.St) : L2.St := match i with
  | some i => σ.set i none
  | none => σ
theorem setO_re {Z : ZZ} {φ : List Addr} {H : Hp} {ρ : Env} {σ : L2.St} {p : PV} {v : V} (i : Option Nat) (rp : RV Z φ H p v) (r : RE Z φ H ρ σ) : RE Z φ H (setO ρ i (some p)) (match i with | some i => σ.set i (some v) | none => σ) := by
  cases i with
  | none => exact r
  | some i => exact RE.set i rp r
theorem unsetO_re {Z : ZZ} {φ : List Addr} {H : Hp} {ρ : Env} {σ : L2.St} (i : Option Nat) (r : RE Z φ H ρ σ) : RE Z φ H (setO ρ i none) (offS i σ) := by
  cases i with
  | none => exact r
  | some i => exact RE.unset i r
abbrev HdT : Type := Value × Option Nat × (Addr → Value → Option Addr → TS)
def offE (i : Option Nat) (D : Ends) : Ends := match i with
  | none => D
  | some i => { nx := fun σ1 H1 => D.nx (σ1.set i none) H1, rt := D.rt, bk := fun σ1 H1 => D.bk (σ1.set i none) H1, ct := fun σ1 H1 => D.ct (σ1.set i none) H1 }
def onS (i : Option Nat) (a : Addr) (σ : L2.St) : L2.St := match i with
  | none => σ
  | some i => σ.set i (some (.ref a))
def wHd (K : PySem.W.Frag) (Wo : WX) (D : Ends) : List HdT → WX
  | [] => Wo
  | (c, i, ts) :: r => fun cls d σ H => ∃ b, PySem.W.exmOne K cls c = some b ∧ (b = true → ∀ a, H a = none → ts a cls d (offE i D) (onS i a σ) H) ∧ (b = false → wHd K Wo D r cls d σ H)
/-- the name under which a handler has the exception -/
inductive HdNm (X : Cx) : Option Str → Option Nat → Prop
  | no : HdNm X none none
  | at {n : Str} {i : Nat} (hi : X.N[i]? = some n) (hl : X.env.kindOf n = some .local) : HdNm X (some n) (some i)
inductive HdAll (X : Cx) : List ExceptHandler → List HdT → Prop
  | nil : HdAll X [] []
  | cons {x : Str} {c : Value} {on : Option Str} {oi : Option Nat} {ts : Addr → Value → Option Addr → TS} {s1 : Stmt} {sr : List Stmt} {pn ph : Pos} {hr : List ExceptHandler} {lr : List HdT}
      (hm : HdNm X on oi) (hc : Names X x c) (hsu : ∀ (a : Addr) (oe : Obj) (cls : Value) (d : Option Addr) (pl : List (Addr × Obj)), L2N.Zn cls d oe → (∃ us, oe.data = .fields us) → PSs (X.suite a ((a, oe) :: pl)) (s1 :: sr) (ts a cls d))
      (rest : HdAll X hr lr) : HdAll X (.ExceptHandler (some (.Name x pn)) on (s1 :: sr) ph :: hr) ((c, oi, ts) :: lr)
section
variable {X : Cx} {body : List Stmt} {hd1 : ExceptHandler} {hdr : List ExceptHandler} {lh : List HdT} {tpos : Pos} {tb : WX → TS} {Wo : WX}
theorem ps_tryAll (hs : X.stack = X.env :: X.outer) (hf : X.env.frame = some X.env.locals) (hN : X.N.Nodup) (tk : L2N.Takes X Wo)
    (hb : ∀ (W1 : WX) (pl : List (Addr × Obj)) (xe : Value → Shared → Prop), L2N.Takes (X.tr pl xe) W1 → PassesOwn (model X.prog X.w) X.A X.env xe → PSs (X.tr pl xe) body (tb W1))
    (hh : HdAll X (hd1 :: hdr) lh) : PS X (.Try body (hd1 :: hdr) [] [] tpos) (fun D σ H => tb (wHd X.K Wo D lh) D σ H) := by
  refine ⟨fun pp s σ H D J0 ht => ?_⟩
  have jok := J0.ok
  have hframes : X.A.frames = some (X.env :: X.outer) := jok.frames.trans (congrArg some hs)
  apply wpAny_Try_except
  refine wpAny_mono ((hb (wHd X.K Wo D lh) (X.pn ++ pp) (fun ev t1 => wpAny (model X.prog X.w) X.A (noteFrame ev X.env) (fun _ t2 => wpAny (model X.prog X.w) X.A (setFlight ev none) (fun _ t3 => wpAny (model X.prog X.w) X.A (handleBy ev X.env (hd1 :: hdr)) (SP X pp D) X.xe t3) X.xe t2) X.xe t1) (fun ev t0 caught => ?_) PassesOwn.looking).run [] s σ H D (J0.toTry _) ht) (fun fl t1 fin => ?_) (fun _ _ q => q)
  · obtain ⟨a, bs, sI, pI, σI, HI, cls, d, rfl, JI0, nbs, upI, skyI, naI, osI, agI, wI⟩ := caught
    have JI : Inv X pp σI HI sI := JI0.ofTry jok
    have skyJ : Sky bs (X.env :: X.outer) a (L2N.Zn cls d) X.env.locals t0.heap := hs ▸ skyI
    show wpAny (model X.prog X.w) X.A (noteFrame (.ref a) X.env) _ _ _
    refine L2N.Sky.land L2N.Zn.steady hframes hf skyJ fun hp3 fly3 up3 => ?_
    have J3 : Inv X pp σI HI { t0 with heap := hp3 } := JI.landed nbs fly3.1 (upI.trans up3) osI agI
    obtain ⟨ob3, fv3, get3, zn3, dat3⟩ := fly3.there
    have apart : a ∉ frs (X.env :: X.outer) := fun hm => by
      obtain ⟨_, ob', get', nf⟩ := fly3.2.2.1.mem hm
      cases get3.symm.trans get'
      exact nf _ dat3
    have aL : a ≠ X.env.locals := fun z => apart (List.mem_filterMap.mpr ⟨X.env, List.mem_cons_self, hf.trans (congrArg some z.symm)⟩)
    have aF : a ∉ X.fs := fun hm => by
      obtain ⟨ev, he, q⟩ := List.mem_filterMap.mp hm
      exact apart (List.mem_filterMap.mpr ⟨ev, List.mem_cons_of_mem _ he, q⟩)
    have suite3 := J3.suite get3 dat3 naI aL aF
    have walk : ∀ {hl : List ExceptHandler} {l2 : List HdT}, HdAll X hl l2 → wHd X.K Wo D l2 cls d σI HI → wpAny (model X.prog X.w) X.A (handleBy (.ref a) X.env hl) (SP X pp D) X.xe { t0 with heap := hp3 } := by
      intro hl l2 hk
      induction hk with
      | nil =>
        intro wq
        apply wpAny_handleBy_nil
        obtain ⟨z1, z2, z3, oq, vq, TT, oT, tsq, getq, znq, datq, h1q, hrq⟩ := id fly3
        unfold PySem.passOn
        refine wpAny_bind (wpAny_field getq datq h1q ?_)
        rw [if_neg (show ¬ (Value.ref TT == Value.none) = true by simp)]
        have on : wpAny (model X.prog X.w) X.A (setFlight (.ref a) X.env.frame) (fun _ t4 => wpAny (model X.prog X.w) X.A (throw (.ref a) : Sem Flow) (SP X pp D) X.xe t4) X.xe { t0 with heap := hp3 } := by
          rw [hf]
          exact HandSPX.setFlight_upZ fly3 fun hp4 held4 up4 => wpAny_throw (tk _ _ ⟨a, bs, sI, pp, σI, HI, cls, d, rfl, JI, nbs, (upI.trans up3).trans up4, .inr (.inr (hs.symm ▸ held4)), naI, osI, agI, wq⟩)
        first
          | exact wpAny_bind (wpAny_pure (wpAny_bind on))
          | exact wpAny_bind on
      | @cons xn c onm oi ts s1 sr pnm ph hr2 lr2 hm hc hsu rest ih =>
        intro wq
        obtain ⟨hit, em, yes, nay⟩ := wq
        refine wpAny_handleBy_cons (codeAny_handlers_test ?_) (by intro q; cases q)
        have lk : PySem.W.Looks (model X.prog X.w) hp3 (typeOf (.ref a)) cls := fun A1 Q1 E1 s1 k1 q1 => wpAny_typeOf_ref (k1 _ _ get3) (by rw [zn3.1]; exact q1)
        have lm := PySem.W.exm_one (M := model X.prog X.w) J3.kIn lk em
        have cread : ∀ {Q1 : Value → Shared → Prop} {E1 : Value → Shared → Prop}, Q1 c { t0 with heap := hp3 } → wpAny (model X.prog X.w) (X.A.mark (some (.ref a))) (eval (.Name xn pnm) X.env) Q1 E1 { t0 with heap := hp3 } := fun {Q1 E1} q1 => by
          obtain ⟨g1, g2, g3 | ⟨g3, g4, g5⟩⟩ := hc
          · exact ld_glob (X := X.suite a ((a, ob3) :: (X.pn ++ pp))) suite3 g1 g3 q1 g2
          · exact ld_blt (X := X.suite a ((a, ob3) :: (X.pn ++ pp))) suite3 g1 g3 g4 q1 g5 g2
        refine cread (lm.here ?_)
        cases hit with
        | false => exact ih (nay rfl)
        | true =>
          cases hm with
          | no =>
            apply codeAny_handlers_suite
            refine HandSPX.lands_againZ fly3 fun hp4 fly4 up4 => ?_
            obtain ⟨ob4, fv4, get4, zn4, dat4⟩ := fly4.there
            have land4 : Inv X pp σI HI { t0 with heap := hp4 } := JI.landed nbs fly4.1 ((upI.trans up3).trans up4) osI agI
            have suite4 := land4.suite get4 dat4 naI aL aF
            refine wpAny_mono ((hsu a ob4 cls d (X.pn ++ pp) zn4 ⟨_, dat4⟩).run [] _ _ HI _ suite4 (yes rfl a naI)) (fun fl t6 fin => ?_) (fun _ _ z => False.elim z)
            cases fl with
            | next =>
              obtain ⟨σ6, H6, in6, q6⟩ := fin
              exact ⟨_, _, in6.unsuite jok, q6⟩
            | brk =>
              obtain ⟨σ6, H6, in6, q6⟩ := fin
              exact ⟨_, _, in6.unsuite jok, q6⟩
            | cont =>
              obtain ⟨σ6, H6, in6, q6⟩ := fin
              exact ⟨_, _, in6.unsuite jok, q6⟩
            | ret u =>
              obtain ⟨v6, σ6, H6, in6, r6, q6⟩ := fin
              exact ⟨_, _, _, in6.unsuite jok, r6, q6⟩
          | @«at» n i hi hln =>
            apply codeAny_handlers_suite_as
            refine HandSPX.lands_againZ fly3 fun hp4 fly4 up4 => ?_
            obtain ⟨ob4, fv4, get4, zn4, dat4⟩ := fly4.there
            have land4 : Inv X pp σI HI { t0 with heap := hp4 } := JI.landed nbs fly4.1 ((upI.trans up3).trans up4) osI agI
            have suite4 := land4.suite get4 dat4 naI aL aF
            refine store_ok (X := X.suite a ((a, ob4) :: (X.pn ++ pp))) (v := .ref a) suite4 hN hi (.inl hln) rfl (fun t5 suite5 => ?_) (.inr hln)
            refine wpAny_mono ((hsu a ob4 cls d (X.pn ++ pp) zn4 ⟨_, dat4⟩).run [] t5 _ HI _ suite5 (yes rfl a naI)) (fun fl t6 fin => ?_) (fun _ _ z => False.elim z)
            have drop : ∀ {σ6 : L2.St} {H6 : Hp} {Q6 : Shared → Prop}, Inv (X.suite a ((a, ob4) :: (X.pn ++ pp))) [] σ6 H6 t6 → (∀ t7, Inv X pp (σ6.set i none) H6 t7 → Q6 t7) → wpAny (model X.prog X.w) X.A (do bindName X.env n .none; unbindBehindTheSuite X.env n ph) (fun _ t7 => Q6 t7) X.xe t6 := fun {_ _ _} in6 hq => gone_ok (in6.unsuite jok) hN hi hln hq
            cases fl with
            | next =>
              obtain ⟨σ6, H6, in6, q6⟩ := fin
              exact drop in6 fun t7 in7 => ⟨_, _, in7, q6⟩
            | brk =>
              obtain ⟨σ6, H6, in6, q6⟩ := fin
              exact drop in6 fun t7 in7 => ⟨_, _, in7, q6⟩
            | cont =>
              obtain ⟨σ6, H6, in6, q6⟩ := fin
              exact drop in6 fun t7 in7 => ⟨_, _, in7, q6⟩
            | ret u =>
              obtain ⟨v6, σ6, H6, in6, r6, q6⟩ := fin
              exact drop in6 fun t7 in7 => ⟨_, _, _, in7, r6, q6⟩
    exact walk hh wI
  · cases fl with
    | next =>
      obtain ⟨σ1, H1, in1, q1⟩ := fin
      exact wpAny_execs_nil ⟨σ1, H1, in1.ofTry jok, q1⟩
    | brk =>
      obtain ⟨σ1, H1, in1, q1⟩ := fin
      exact ⟨σ1, H1, in1.ofTry jok, q1⟩
    | cont =>
      obtain ⟨σ1, H1, in1, q1⟩ := fin
      exact ⟨σ1, H1, in1.ofTry jok, q1⟩
    | ret u =>
      obtain ⟨v1, σ1, H1, in1, r1, q1⟩ := fin
      exact ⟨v1, σ1, H1, in1.ofTry jok, r1, q1⟩
end
/-- its context; k: how deep calls may go -/
structure CqX (X : Cx) (W : WX) (k : Nat) : Prop where
  cold : X.calm = false
  nd : X.N.Nodup
  hr : L2H.RoomH k X.A
  tk : L2N.Takes X W
  hot : ∃ p r, X.pn = p :: r ∧ L2H.Hot1 X.A p
theorem CqX.u66 {X : Cx} {W : WX} {k : Nat} (c : CqX X W k) : X.A.units + 66 < cLine := c.hr.u66
theorem z_hot {X : Cx} {p : Addr × Obj} {r : List (Addr × Obj)} (c : X.calm = false) (e : X.pn = p :: r) : zOf X = ⟨X.K, [p], X.prog, X.w⟩ := by
  unfold zOf hotPn
  rw [c, e]
  rfl
/-- what is known of a class's name in a handler -/
structure HdJ (K : PySem.W.Frag) (mg : Str → Option Value) (c : Str) (xs : List Str) : Prop where
  gl : mg c = some (.ref (He.ga K c))
  mt : ∀ y ∈ xs, PySem.W.exmOne K (.ref (He.ga K y)) (.ref (He.ga K c)) = some (hitX y c)
inductive JHs (X : Cx) (C : Calls) (k : Nat) (xs : List Str) : List ExceptHandler → List S → Prop
  | nil : JHs X C k xs [] []
  | cons {c : Str} {on : Option Str} {oi : Option Nat} {s1 : Stmt} {sr : List Stmt} {sb : List S} {pn ph : Pos} {hr : List ExceptHandler} {lr : List S} (hd : HdJ X.K X.mg c xs) (hm : HdNm X on oi)
      (hsu : ∀ (a : Addr) (oe : Obj) (pl : List (Addr × Obj)), CqX (X.suite a ((a, oe) :: pl)) W0 k → JSs (X.suite a ((a, oe) :: pl)) W0 C (s1 :: sr) sb) (rest : JHs X C k xs hr lr) (hg : Gl X c := by rfl) (hdb : (c == ("__debug__" : Str)) = false := by decide) :
      JHs X C k xs (.ExceptHandler (some (.Name c pn)) on (s1 :: sr) ph :: hr) (.hd c oi sb :: lr)
section
variable {X : Cx} {W : WX} {C : Calls} {k : Nat} {xs : List Str} {body : List Stmt} {ss : List S} {pos : Pos}
theorem hds_of (cq : Cq X W k) {hl : List ExceptHandler} {hs : List S} (J : JHs X C k xs hl hs) : ∃ l : List HdT, HdAll X hl l ∧ ∀ (D : Ends) (x : Exn) (ρ : Env) (h : PH) (φ : List Addr) (H : Hp) (σ : L2.St) (cls : Value) (d : Option Addr), x.cls ∈ xs →
    OutS ⟨X.K, [], X.prog, X.w⟩ X.mg φ H W D (exH C hs x ρ h) → Sim ⟨X.K, [], X.prog, X.w⟩ φ h H → RE ⟨X.K, [], X.prog, X.w⟩ φ H ρ σ → RX ⟨X.K, [], X.prog, X.w⟩ X.mg φ H x cls d → wHd X.K W D l cls d σ H := by
  induction J with
  | nil => exact ⟨[], .nil, fun D x ρ h φ H σ cls d hx o sm re rx => o φ H σ cls d (Ext.refl _ _) sm re rx⟩
  | @cons c on oi s1 sr sb pn ph hr lr hd hm hsu rest hg hdb ih =>
    obtain ⟨l, hl, hw⟩ := ih
    refine ⟨(.ref (He.ga X.K c), oi, fun a cls d D σ H => ∀ oe, L2N.Zn cls d oe → (∃ us, oe.data = .fields us) → tSs ⟨X.K, [(a, oe)], X.prog, X.w⟩ X.mg W0 C sb D σ H) :: l, .cons hm ⟨hg, hdb, .inl hd.gl⟩ (fun a oe cls d pl zn zf => ?_) hl, fun D x ρ h φ H σ cls d hx o sm re rx => ?_⟩
    · obtain ⟨us, hus⟩ := id zf
      have ch : CqX (X.suite a ((a, oe) :: pl)) W0 k := ⟨rfl, cq.nd, (show L2H.RoomH (2 * k + 4) (X.suite a ((a, oe) :: pl)).A from ⟨cq.hr.dp, cq.hr.un⟩).mono (by omega), takesN0, (a, oe), pl, rfl, rfl, us, hus, zn.2.2 us hus⟩
      have j := hsu a oe pl ch
      rw [JSs, z_hot (X := X.suite a ((a, oe) :: pl)) rfl rfl] at j
      exact pss_imp j fun D σ H t => t oe zn zf
    · obtain ⟨ec, gs, gd, gn, gr⟩ := id rx
      refine ⟨hitX x.cls c, by rw [ec]; exact hd.mt _ hx, fun hy a na oe zn zf => ?_, fun hn => ?_⟩
      · have o1 : OutS ⟨X.K, [], X.prog, X.w⟩ X.mg φ H W D (coolS oi ρ h (exSs C sb (setO ρ oi (some (.xc x.cls x.ns x.vs))) h)) := by
          have o2 := o
          unfold exH at o2
          rw [if_pos hy] at o2
          exact o2
        have cr : coldVs x.vs = true := RVs.cold gr
        have rxc : RV ⟨X.K, [(a, oe)], X.prog, X.w⟩ φ H (.xc x.cls x.ns x.vs) (.ref a) := by
          refine ⟨a, oe, rfl, List.mem_singleton.mpr rfl, zn.1.trans ec, zf, ?_⟩
          rcases gd with ⟨g1, g2⟩ | ⟨dd, g1, g2, g3⟩
          · exact .inl ⟨zn.2.1.trans g1, by rw [← gn, g2]; rfl⟩
          · exact .inr ⟨dd, gs, gs.map (·.2), zn.2.1.trans g1, g2, g3, .inr ⟨gn, rfl⟩, RVs.repin cr gr⟩
        have smh : Sim ⟨X.K, [(a, oe)], X.prog, X.w⟩ φ h H := sm.repin fun n o e => sm.cold e
        have reh : RE ⟨X.K, [(a, oe)], X.prog, X.w⟩ φ H (setO ρ oi (some (.xc x.cls x.ns x.vs))) (onS oi a σ) := by
          have := setO_re oi rxc (RE.repin (pn' := [(a, oe)]) re fun n p e => re.cold e)
          cases oi <;> exact this
        refine ⟨_, φ, h, smh, reh, ?_⟩
        generalize exSs C sb (setO ρ oi (some (.xc x.cls x.ns x.vs))) h = m at o1
        cases m with
        | nx ρ1 h1 =>
          simp only [coolS] at o1
          by_cases hc : coolE ρ (setO ρ1 oi none) ∧ coolH h h1
          · rw [if_pos hc] at o1
            intro φ2 H2 σ2 x2 s2 r2
            have hcold : ∀ (n : Nat) (o : PO), h1[n]? = some o → coldO o = true := fun n o e => (hc.2 n o e).elim (fun z => sm.cold z) id
            have fin := o1 φ2 H2 (offS oi σ2) x2 (s2.repin hcold) (RE.repin (unsetO_re oi r2) fun n p e => (hc.1 n p e).elim (fun z => re.cold z) id)
            cases oi <;> exact fin
          · rw [if_neg hc] at o1
            exact (show False from o1).elim
        | rt v h1 =>
          simp only [coolS] at o1
          by_cases hc : coldV v = true ∧ coolH h h1
          · rw [if_pos hc] at o1
            intro φ2 H2 y x2 s2 r2
            have hcold : ∀ (n : Nat) (o : PO), h1[n]? = some o → coldO o = true := fun n o e => (hc.2 n o e).elim (fun z => sm.cold z) id
            have fin := o1 φ2 H2 y x2 (s2.repin hcold) (r2.repin hc.1)
            cases oi <;> exact fin
          · rw [if_neg hc] at o1
            exact (show False from o1).elim
        | bk ρ1 h1 => exact (show False from o1).elim
        | ct ρ1 h1 => exact (show False from o1).elim
        | ex y ρ1 h1 => exact (show False from o1).elim
        | no => exact (show False from o1).elim
      · refine hw D x ρ h φ H σ cls d hx ?_ sm re rx
        have o2 := o
        unfold exH at o2
        rw [if_neg (by rw [hn]; decide)] at o2
        exact o2
theorem js_tryH {h1 : ExceptHandler} {hl : List ExceptHandler} {hs : List S} (cq : Cq X W k) (hb : ∀ (W : WX) (pn : List (Addr × Obj)) (xe : Value → Shared → Prop), Cq (X.tr pn xe) W k → JSs (X.tr pn xe) W C body ss) (J : JHs X C k xs (h1 :: hl) hs)
    (hst : X.stack = X.env :: X.outer := by rfl) (hf : X.env.frame = some X.env.locals := by rfl) : JS X W C (.Try body (h1 :: hl) [] [] pos) (.tryH ss xs hs) := by
  have hz : zOf X = ⟨X.K, [], X.prog, X.w⟩ := z_calm cq.calm
  have hzt : ∀ (pn : List (Addr × Obj)) (xe : Value → Shared → Prop), zOf (X.tr pn xe) = ⟨X.K, [], X.prog, X.w⟩ := fun pn xe => z_calm (X := X.tr pn xe) cq.calm
  obtain ⟨l, hall, hw⟩ := hds_of cq J
  refine ps_imp (ps_tryAll (tb := fun W' => tSs ⟨X.K, [], X.prog, X.w⟩ X.mg W' C ss) (Wo := W) hst hf cq.nd cq.tk (fun W' pn xe tk po => ?_) hall) fun D σ H ⟨ρ, φ, h, sm, re, o⟩ => ?_
  · have := hb W' pn xe ⟨cq.calm, cq.nd, cq.hr, tk, po⟩
    rw [JSs, hzt] at this
    exact this
  · rw [hz] at sm re o
    refine ⟨ρ, φ, h, sm, re, ?_⟩
    have o' : OutS ⟨X.K, [], X.prog, X.w⟩ X.mg φ H W D (match exSs C ss ρ h with
      | .ex x ρ1 h1 => if x.cls ∈ xs then exH C hs x ρ1 h1 else .no
      | r => r) := o
    cases e : exSs C ss ρ h with
    | nx ρ1 h1 => rw [e] at o'; exact o'
    | rt v h1 => rw [e] at o'; exact o'
    | bk ρ1 h1 => rw [e] at o'; exact o'
    | ct ρ1 h1 => rw [e] at o'; exact o'
    | no => rw [e] at o'; exact o'
    | ex x ρ1 h1 =>
      rw [e] at o'
      simp only at o'
      intro φ' H' σ' cls d x1 s1 r1 rx
      by_cases hm : x.cls ∈ xs
      · rw [if_pos hm] at o'
        exact hw D x ρ1 h1 φ' H' σ' cls d hm (o'.mono x1) s1 r1 rx
      · rw [if_neg hm] at o'
        exact (show False from o').elim
end
section
variable {X : Cx} {W : WX} {C : Calls} {a : Expr} {ea : E} {f c : Str} {pos : Pos}
theorem je_xat (T : XfC X.K (He.ga X.K c)) (hno : PySem.W.findIn X.K (.ref (He.ga X.K c)) f = some none) (ha : JE X W C a ea) (hb : attributeBase a f X.env (eval a X.env) = eval a X.env := by rfl) : JE X W C (.Attribute a f pos) (.xat ea f c) := by
  refine ⟨fun pins s σ H Q I ht => ?_⟩
  obtain ⟨ρ, φ, h, sm, re, o⟩ := ht
  have o' : Out (zOf X) X.mg (RV (zOf X)) φ H (atS W σ) Q ((evG C ea false ρ h).bind fun x h1 => xatop x f c h1) := o
  have o2 : Out (zOf X) X.mg (RV (zOf X)) φ H (atS W σ) (fun v H1 => ∃ φ1 p h1, Sim (zOf X) φ1 h1 H1 ∧ RV (zOf X) φ1 H1 p v ∧ Out (zOf X) X.mg (RV (zOf X)) φ1 H1 (atS W σ) Q (xatop p f c h1)) (evG C ea false ρ h) := by
    cases e : evG C ea false ρ h with
    | ok p h1 =>
      rw [e, R.bind_ok] at o'
      exact fun φ' H' v x s r => ⟨φ', p, h1, s, r, o'.mono x⟩
    | ex y h1 => rw [e] at o'; exact o'
    | no => rw [e] at o'; exact o'
  refine attr_of hb (thn (ha.run pins s σ H _ I ⟨ρ, φ, h, sm, re, o2⟩) fun u s1 hh => ?_)
  obtain ⟨v, H1, I1, rv, φ1, p, h1, s1', rp, o3⟩ := hh
  cases p with
  | xc x ns vs =>
    obtain ⟨ad, oe, rfl, hp, hc, ⟨us, hd⟩, hdd⟩ := rp
    unfold xatop at o3
    by_cases hx : x = c
    · simp only [if_pos hx] at o3
      subst hx
      obtain rfl : u = Value.ref ad := rv
      obtain ⟨hget, _⟩ := I1.pin (ad, oe) (List.mem_append_left _ (hot_mem hp))
      rcases hdd with ⟨hn, hns⟩ | ⟨dd, fs, ls, e1, e2, e3, e4, r4⟩
      · subst hns
        exact (show False from o3).elim
      · rcases e4 with e4 | ⟨e4, e5⟩
        · subst e4
          exact (show False from o3).elim
        · subst e4 e5
          cases hl : ((fs.map (·.1)).zip vs).lookup f with
          | none => rw [hl] at o3; exact (show False from o3).elim
          | some q =>
            rw [hl] at o3
            obtain ⟨y, l1, r1⟩ := fl_lookup r4 hl
            have hx : ObjOk X.prog X.w H1 s1.heap dd (.xd fs) := I1.hok dd _ e2
            obtain ⟨mA, hns, hr⟩ := hx
            obtain ⟨od, ho, hl2⟩ := lookIn_ns hns
            obtain ⟨uu, hu, ru⟩ := RelO.some_of (v := y) (o := mA f) (by rw [← l1]; exact hr f)
            have J : PySem.W.InstAt s1.heap ad oe (He.ga X.K x) (some od) := ⟨hget, hc, by unfold PySem.W.notCls; rw [hd] <;> rfl, by rw [e1]; exact ho⟩
            exact HandSPX.exc_get I1.kIn J T.ga T.gg T.exC (PySem.W.findObj_own T.hdC hno rfl (by rw [hl2, hu])) (handed_of ru) ⟨y, H1, I1.tok _, ru, o3 φ1 H1 y (Ext.refl _ _) s1' r1⟩
    · simp only [if_neg hx] at o3
      exact (show False from o3).elim
  | _ => exact (show False from o3).elim
end
/-- a def that is called there -/
structure FnIH (P : Program) (w : World) (K : PySem.W.Frag) (mg : Str → Option Value) (base : Heap) (C : Calls) (k : Nat) (x : Str) (fi : Nat) (np : Nat) : Prop where
  ex : ∃ (fa : Addr) (fd : FuncData) (ps : List Str), ps.length = np ∧ FnP P w K mg base k fa fd ps (fun p => spF ⟨K, [p], P, w⟩ mg C fi np) ∧ mg x = some (.ref fa) ∧ PySem.W.keepIn K (.ref fa) = true ∧ Binds K fd ps []
section
variable {X : Cx} {W : WX} {C : Calls} {k : Nat} {x : Str} {q pos : Pos} {e : Expr} {es : List Expr} {ees : List E}
theorem je_callH {fi np : Nat} (G : FnIH X.prog X.w X.K X.mg X.base C k x fi np) (ch : CqX X W k) (ha : JA X W C (e :: es) ees) (hl : ees.length + 0 = np := by rfl) (hg : Gl X x := by rfl)
    (hdb : (x == ("__debug__" : Str)) = false := by decide) (he : starEach (e :: es) X.env = (false, eval e X.env) :: starEach es X.env := by rfl) (hpl : (backTo pos (starEach es X.env)).any (·.1) = false := by rfl) :
    JE X W C (.Call (.Name x q) (e :: es) [] pos) (.call fi ees []) := by
  obtain ⟨fa, fd, ps, hps, F, hm, hk, hb⟩ := G.ex
  obtain ⟨p, r, ep, hot⟩ := ch.hot
  have hz := z_hot ch.cold ep
  refine ⟨fun pins s σ H Q I ht => ?_⟩
  obtain ⟨ρ, φ, h, sm, re, o⟩ := ht
  have red := call_red (X := X) (W := W) (C := C) (ees := ees) (fi := fi) (np := np) (ds := []) (dvs := []) (σ := σ) (H := H) (Q := Q) hl (fun _ _ => rfl) sm re o
  refine wpAny_Call_Name_kw (ld_glob I hg hm ?_ hdb)
  refine PySem.W.callWith_K (h₀ := X.base) I.ok.mod.kin hk (thn (ha.run pos pins s σ H _ I red) fun us s1 hh => ?_) he hpl
  obtain ⟨vs, H1, I1, rv, hsp⟩ := hh
  rw [List.append_nil, hz] at hsp
  refine ⟨I1.kIn, ?_⟩
  have hlen : us.length = ps.length := by rw [← rv.length]; exact F.len p _ _ _ _ hsp
  have bd := hb s1 us I1.kIn (by rw [List.append_nil]; exact hlen)
  rw [List.append_nil] at bd
  have hmem : p ∈ X.pn := by rw [ep]; exact List.mem_cons_self
  obtain ⟨z1, z2, z3, z4, z5⟩ := I1.pin p (List.mem_append_left _ hmem)
  have hpin : L2H.PinOk X.stack H1 s1 p := ⟨z1, z2, fun hm => (List.mem_cons.mp (I1.stkSub p.1 hm)).elim z3 z4, z5⟩
  refine wpAny_call (codeAny_mono (F.run X.A X.stack s1 H1 ⟨us, []⟩ us vs Q (WE W σ) p ch.hr hot hpin I1.env0 bd rv hsp) fun r s' hq => ?_)
  cases r with
  | error er => exact L2N.passAt ch.tk σ pins H1 s1 er s' I1 hq
  | ok fl =>
    cases fl with
    | ret u => exact I1.after hq
    | next => exact False.elim hq
    | brk => exact False.elim hq
    | cont => exact False.elim hq
end
theorem fn_okH {P : Program} {w : World} {K : PySem.W.Frag} {mg : Str → Option Value} {base : Heap} {x qual : Str} {params : Arguments} {body : List Stmt} {scope : Scope} {dvs : List V} {kws : List (Str × V)} {f : Addr} {fd : FuncData} {N ps : List Str} {k : Nat} {tbl : Nat → Fn} {fi : Nat}
    (Fd : FunD K x qual params body scope dvs kws f fd) (Sc : FnScope N ps scope) (hn : N.length = (tbl fi).ns) (hp : ps.length = (tbl fi).np)
    (hb : ∀ (cdv : Value) (A : Around) (outer : List PySem.Env) (s : Shared) (H : Hp) (E : XK) (p : Addr × Obj), CqX (cxP P w K mg base N qual scope f cdv A outer s H E p) (fun c d _ H => E c d H) k → JSs (cxP P w K mg base N qual scope f cdv A outer s H E p) (fun c d _ H => E c d H) (call tbl k) body (tbl fi).body) :
    FnP P w K mg base (k + 1) f fd ps (fun p => spF ⟨K, [p], P, w⟩ mg (call tbl (k + 1)) fi ps.length) := by
  obtain ⟨oc, od, dV, kV, doc, pm, an, cdv, ct, osl, rfl, lk, hcd, _, _⟩ := Fd.ex
  refine ⟨fun p vs H Q E h => h.1, fun A outer s H args us vs Q E p hr hot hpin e0 hbd r hsp => ?_⟩
  have hlen := hsp.1
  have kin : K.In s.heap := e0.mod.kin.keeps fun b o q => (e0.bs b o q).1
  have nol : s.heap.NoLimit := e0.mod.nolimit.keeps fun b o q => (e0.bs b o q).1
  refine codeAny_call_function hr.depth (kin _ _ lk) rfl Sc.co Sc.gen rfl (PySem.W.codeRec_of kin hcd) (hbd _ _ _ _ ?_)
  refine wpAny_newFunctionEnv_cells Sc.kind (fun y hy => ?_) fun env he s1 xc => ?_
  · obtain ⟨nm, vl⟩ := y
    exact (Sc.par nm (List.of_mem_zip hy).1).imp id fun q => ⟨q, PySem.W.cellsFrom_some _ _ _ (.inl q)⟩
  · subst he
    refine ⟨nol.keeps xc.toInCall.keep, codeAny_func ?_⟩
    have ch : CqX (cxP P w K mg base N qual scope f cdv A outer s H E p) (fun c d _ H => E c d H) k := ⟨rfl, Sc.nd, hr.deeper _, L2N.takes_of rfl rfl rfl rfl, p, [], rfl, hot⟩
    have ht := hb cdv A outer s H E p ch
    obtain ⟨hl, φ, hh, pl, sm, rr, o⟩ := hsp
    have I0 : Inv (cxP P w K mg base N qual scope f cdv A outer s H E p) [] (L2.start N vs) H s1 := L2H.inv_startH Sc hpin e0 hlen r xc
    have o' : Out ⟨K, [p], P, w⟩ mg (RV ⟨K, [p], P, w⟩) φ H E Q (runFn (call tbl k) (tbl fi) pl hh) := o
    unfold runFn at o'
    split at o'
    · rename_i hlen2
      have re := start_re (N.length - vs.length) rr
      have e1 : zas (tbl fi).ns pl = pl.map some ++ List.replicate (N.length - vs.length) none := by
        unfold zas
        rw [hn, rr.length]
      have tt : tSs (zOf (cxP P w K mg base N qual scope f cdv A outer s H E p)) mg (fun c d _ H => E c d H) (call tbl k) (tbl fi).body { nx := fun _ H' => Q .non H', rt := Q } (L2.start N vs) H := by
        refine ⟨zas (tbl fi).ns pl, φ, hh, sm, by rw [e1]; exact re, ?_⟩
        generalize exSs (call tbl k) (tbl fi).body (zas (tbl fi).ns pl) hh = m at o'
        cases m with
        | nx ρ h1 => exact fun φ' H' σ' x s r => o' φ' H' .non x s rfl
        | rt v h1 => exact fun φ' H' y x s r => o' φ' H' y x s r
        | ex y ρ h1 => exact fun φ' H' σ' c d x s _ r => o' φ' H' c d x s r
        | bk ρ h1 => exact (show False from o').elim
        | ct ρ h1 => exact (show False from o').elim
        | no => exact (show False from o').elim
      refine wpAny_mono (ht.run [] s1 (L2.start N vs) H _ I0 tt) (fun fl s' hs => ?_) fun _ _ z => z
      cases fl with
      | ret u =>
        obtain ⟨v, σ', H', J, rv, q⟩ := hs
        exact ⟨v, H', J.os, J.bare, J.base, J.hok, rv, q⟩
      | next =>
        obtain ⟨σ', H', J, q⟩ := hs
        exact ⟨.non, H', J.os, J.bare, J.base, J.hok, rfl, q⟩
      | brk =>
        obtain ⟨_, _, _, q⟩ := hs
        exact q.elim
      | cont =>
        obtain ⟨_, _, _, q⟩ := hs
        exact q.elim
    · exact (show False from o').elim
theorem fnH_zero {P : Program} {w : World} {K : PySem.W.Frag} {mg : Str → Option Value} {base : Heap} {f : Addr} {fd : FuncData} {ps : List Str} {tbl : Nat → Fn} {fi : Nat} : FnP P w K mg base 0 f fd ps (fun p => spF ⟨K, [p], P, w⟩ mg (call tbl 0) fi ps.length) :=
  ⟨fun p vs H Q E h => h.1, fun A outer s H args us vs Q E p _ _ _ _ _ _ h => by
    obtain ⟨_, φ, hh, pl, sm, r, o⟩ := h
    exact (show False from o).elim⟩
theorem hdJ_ok {K : PySem.W.Frag} {h : Heap} {mg : Str → Option Value} (X : K.In h) (G : h.Ns mainGlobals mg) {c : Str} {xs : List Str} (e : hdJB K c xs = true) : HdJ K mg c xs := by
  obtain ⟨c1, c2⟩ := He.ba e
  exact ⟨He.glo_ok X G c1, fun y hy => of_decide_eq_true (List.all_eq_true.mp c2 y hy)⟩
end Sb
namespace Sb
open PySem PySem.Spec PyProof.Rows L2
section
variable {K : ZZ} {φ φ' : List Addr} {H H' : Hp}
def RFd (K : ZZ) (φ : List Addr) (H : Hp) (fs : List (Str × PV)) (kvs : List (Str × V)) : Prop := kvs.map (·.1) = fs.map (·.1) ∧ RVs K φ H (fs.map (·.2)) (kvs.map (·.2))
theorem RFd.nil : RFd K φ H [] [] := ⟨rfl, rfl⟩
theorem RFd.inv {f : Str} {p : PV} {l : List (Str × PV)} {kvs : List (Str × V)} (r : RFd K φ H ((f, p) :: l) kvs) : ∃ v t, kvs = (f, v) :: t ∧ RV K φ H p v ∧ RFd K φ H l t := by
  cases kvs with
  | nil =>
    have := r.1
    simp at this
  | cons kv t =>
    obtain ⟨k', v⟩ := kv
    obtain ⟨r1, v', t', e, q, s⟩ := r
    simp at r1 e
    obtain ⟨rfl, r2⟩ := r1
    obtain ⟨rfl, rfl⟩ := e
    exact ⟨v, t, rfl, q, r2, s⟩
theorem RFd.empty {kvs : List (Str × V)} (r : RFd K φ H [] kvs) : kvs = [] := by
  have := r.1
  simpa using this
theorem RFd.cons {f : Str} {p : PV} {v : V} {l : List (Str × PV)} {kvs : List (Str × V)} (h : RV K φ H p v) (r : RFd K φ H l kvs) : RFd K φ H ((f, p) :: l) ((f, v) :: kvs) := ⟨by simp [r.1], RVs.cons h r.2⟩
theorem RFd.mono (x : Ext φ φ' H H') {l : List (Str × PV)} {kvs : List (Str × V)} (r : RFd K φ H l kvs) : RFd K φ' H' l kvs := ⟨r.1, r.2.mono x⟩
theorem RFd.put {f : Str} {p : PV} {v : V} (h : RV K φ H p v) : ∀ {l : List (Str × PV)} {kvs : List (Str × V)}, RFd K φ H l kvs → RFd K φ H (putO f p l) (putF f v kvs)
  | [], kvs, r => by
    rw [r.empty]
    exact RFd.cons h RFd.nil
  | (g, q) :: l, kvs, r => by
    obtain ⟨w, t, rfl, q', s⟩ := r.inv
    unfold putO putF
    by_cases e : g = f
    · rw [if_pos e, if_pos e]
      exact RFd.cons h s
    · rw [if_neg e, if_neg e]
      exact RFd.cons q' (RFd.put h s)
theorem RFd.length {l : List (Str × PV)} {kvs : List (Str × V)} (r : RFd K φ H l kvs) : l.length = kvs.length := by
  have := congrArg List.length r.1
  simpa using this.symm
theorem Sim.obj {h : PH} {n : Nat} {c : Str} {fs : List (Str × PV)} (s : Sim K φ h H) (e : h[n]? = some (.obj c fs)) : ∃ a dx kvs, φ[n]? = some a ∧ H a = some (.ins (He.ga K.K c) dx kvs) ∧ RFd K φ H fs kvs := by
  obtain ⟨a, ho, e1, e2, dx, kvs, e3, r⟩ := s.ob n _ e
  subst e3
  exact ⟨a, dx, kvs, e1, e2, r⟩
end
end Sb
namespace Sb
open PySem PySem.Spec PyProof.Rows L2
theorem obsU_eq {n : Nat} {fa : List He.Fa} {fn : List He.DefD} {ex : PySem.W.Frag → Bool} {ts : List (Str × List Str)} (s : PySem.W.SharedT) : obsU n fa fn ex ts s = (hookU n fa fn ex ts).obs s.abs := by
  have e : HandSHeadRun.getT s = s.abs.heap.get? := funext (HandSHeadRun.getT_eq s)
  unfold obsU
  rw [e]
  rfl
end Sb
namespace L2
open PySem
end L2
namespace Sb
open PySem PySem.Spec PyProof.Rows L2
section
open L2
variable {K : ZZ} {φ : List Addr} {H : Hp} {X : Cx} {W : XK}
theorem RD.drop (k : Key) : ∀ {l : List (Key × PV)} {kvs : List (Key × V)}, RD K φ H l kvs → RD K φ H (dropP l k) (dropK kvs k)
  | [], kvs, r => by
    rw [r.empty]
    exact RD.nil
  | (k', p) :: l, kvs, r => by
    obtain ⟨v, t, rfl, q, s⟩ := r.inv
    have ih := RD.drop k s
    unfold dropP dropK at ih ⊢
    by_cases e : k' = k
    · rw [List.filter_cons_of_neg (by simp [e]), List.filter_cons_of_neg (by simp [e])]
      exact ih
    · rw [List.filter_cons_of_pos (by simp [e]), List.filter_cons_of_pos (by simp [e])]
      exact RD.cons q ih
end
end Sb
namespace Sb
open PySem PySem.Spec PyProof.Rows L2
theorem Kp.trans {φ φ' φ2 : List Addr} {H H' H2 : Hp} (x : Kp φ φ' H H') (y : Kp φ' φ2 H' H2) : Kp φ φ2 H H2 := ⟨fun n a e => y.pl n a (x.pl n a e), fun a o f e n => y.fx a o f (x.fx a o f e n).1 (x.fx a o f e n).2⟩
theorem RE.monoK {K : ZZ} {φ φ' : List Addr} {H H' : Hp} (x : Kp φ φ' H H') : ∀ {ρ : Env} {σ : L2.St}, RE K φ H ρ σ → RE K φ' H' ρ σ
  | [], _, h => h
  | q :: ρ, σ, h => by
    obtain ⟨v, r, e, k, s⟩ := h
    exact ⟨v, r, e, fun y z => (k y z).imp fun u w => ⟨w.1, w.2.monoK x⟩, RE.monoK x s⟩
end Sb
set_option maxHeartbeats 2000000
namespace Sb
open PySem PySem.Spec PyProof.Rows L2 HotX
section
variable {prog : Program} {w : World} {A : Around} {E : Value → Shared → Prop} {s : Shared}
/-- a StopIteration is made -/
theorem stop_new {Q : Value → Shared → Prop} (q : ∀ (g : Heap) (a : Addr) (o : Obj) (vs : Array Value), s.heap.objs.size ≤ a → (∀ b u, s.heap.get? b = some u → g.get? b = some u) → g.get? a = some o → o.cls = .type "StopIteration" → o.data = .fields vs → 2 < vs.size → Q (.ref a) { s with heap := g }) : wpAny (model prog w) A (newExc (.type "StopIteration") []) Q E s := by
  simp only [newExc, newTuple]
  apply wpAny_bind
  refine wpAny_newObj_type (wpAny_bind (m := firstArgMember _ _) (wpAny_of_eq (a := Value.none) (by first | rfl | (simp only [firstArgMember]; rfl)) (wpAny_newObj_type ?_ (by size_fits)))) (by size_fits)
  refine q _ _ _ _ ?_ (fun b u e => Heap.get?_push_of_some _ (Heap.get?_push_of_some _ e)) (Heap.get?_push_size _ rfl) rfl rfl ?_
  · show _ ≤ (Heap.push _ _).objs.size
    rw [Heap.size_push]
    exact Nat.le_succ _
  · first | (simp; done) | (simp; omega) | (simp only [Array.size_append]; simp; omega)
/-- .. and raised, another exception being handled -/
theorem stop_raised {α : Type} {x : Addr} {R : α → Shared → Prop} {a : Addr} {g : Heap} {o : Obj} {vs : Array Value} (hot : HotAt A x s.heap) (h0 : s.heap.objs.size ≤ a) (kp : ∀ b u, s.heap.get? b = some u → g.get? b = some u) (ha : g.get? a = some o) (hc : o.cls = .type "StopIteration") (hd : o.data = .fields vs) (h2 : 2 < vs.size)
    (q : ∀ (g : Heap) (e : Addr), (∀ b u, s.heap.get? b = some u → g.get? b = some u) → (∃ o, g.get? e = some o ∧ o.cls = .type "StopIteration") → E (.ref e) { s with heap := g }) : wpAny (model prog w) A (raiseNew (.ref a) : Sem α) R E { s with heap := g } := by
  obtain ⟨hh, o1, vs1, h1, d1, c1⟩ := hot
  have away : ∀ {b : Addr} {u : Obj}, s.heap.get? b = some u → b ≠ a := fun e => Nat.ne_of_lt (Nat.lt_of_lt_of_le (Heap.lt_size e) h0)
  refine raiseNew_hot (s := { s with heap := g }) ⟨hh, o1, vs1, kp _ _ h1, d1, c1⟩ (away h1) ha hd h2 (q _ a (fun b u e => ?_) ⟨_, Heap.get?_update_self _ ha (Obj.isFreed_of_fields (Obj.data_mapFields hd _)), (Obj.cls_mapFields ..).trans hc⟩)
  show (g.update a _).get? b = some u
  rw [Heap.get?_update_other _ _ (away e).symm]
  exact kp b u e
theorem stop_it {α : Type} {x : Addr} {R : α → Shared → Prop} (hot : HotAt A x s.heap) (q : ∀ (g : Heap) (e : Addr), (∀ b u, s.heap.get? b = some u → g.get? b = some u) → (∃ o, g.get? e = some o ∧ o.cls = .type "StopIteration") → E (.ref e) { s with heap := g }) : wpAny (model prog w) A (Builtin.SmallTypes.stopIteration : Sem α) R E s := by
  unfold Builtin.SmallTypes.stopIteration
  exact wpAny_bind (stop_new fun g a o vs h0 kp ha hc hd h2 => stop_raised hot h0 kp ha hc hd h2 q)
theorem hot_far {x a : Addr} {h h' : Heap} (hot : HotAt A x h) (ne : x ≠ a) (k : Heap.ExtBut a h h') : HotAt A x h' := by
  obtain ⟨hh, o, vs, h1, r⟩ := hot
  exact ⟨hh, o, vs, k _ _ ne h1, r⟩
/-- a tuple's iterator at its end -/
theorem tup_stop {it t x : Addr} {i : Nat} {items : Array Value} {Q : Fin → Shared → Prop} (hot : HotAt A x s.heap) (ne : x ≠ it) (hit : s.heap.IsTupleIter it t i) (ht : s.heap.IsTuple t items) (hx : items[i]? = none)
    (q : ∀ (g : Heap) (e : Addr), Heap.ExtBut it s.heap g → (∃ o, g.get? e = some o ∧ o.cls = .type "StopIteration") → E (.ref e) { s with heap := g }) : wpAny (model prog w) A (Builtin.«tuple_iterator.__next__» ⟨[.ref it], []⟩) Q E s := by
  obtain ⟨o, ho, hc, hd⟩ := hit
  obtain ⟨ol, hol, _, nl, hdl⟩ := ht
  refine (show wpAny _ _ (field (.ref it) 0 >>= _) _ _ s from wpAny_bind (wpAny_field ho hd (x := .ref t) rfl ?_))
  rw [if_neg (show (Value.ref t == Value.none) ≠ true from Bool.false_ne_true)]
  refine wpAny_bind (wpAny_field (s := s) ho hd (x := .int i 0) rfl (wpAny_bind (wpAny_seqItems hol hdl ?_)))
  simp only [hx, Int.toNat_natCast]
  refine wpAny_bind (wpAny_rule (wpAny_bind (wpAny_setField ho hd (by simp) ?_)))
  exact stop_it (hot_far hot ne (Heap.SameBut.update ..).extBut) fun g e kp he => q g e (fun b u hb z => kp b u ((Heap.SameBut.update ..).extBut b u hb z)) he
theorem tup_end {it t x : Addr} {i : Nat} {items : Array Value} {Q : Value → Shared → Prop} (hot : HotAt A x s.heap) (ne : x ≠ it) (hit : s.heap.IsTupleIter it t i) (ht : s.heap.IsTuple t items) (hx : items[i]? = none)
    (q : ∀ (g : Heap) (e : Addr), Heap.ExtBut it s.heap g → (∃ o, g.get? e = some o ∧ o.cls = .type "StopIteration") → E (.ref e) { s with heap := g }) : wpAny (model prog w) A (Builtin.SmallTypes.nextOf (.ref it)) Q E s := by
  unfold Builtin.SmallTypes.nextOf
  exact wpAny_bind (wpAny_callSpecial?_slot (name := Str.ofString "__next__") hit.typeIs F.slot_tuple_iterator_next (wpAny_call_entry F.slot_tuple_iterator_next hit.typeIs F.entry_tuple_iterator_next (tup_stop (A := A.in1) hot ne hit ht hx q) (F.args_tuple_iterator_next_1 _)))
theorem next_tup_end {it t x : Addr} {i : Nat} {items : Array Value} {Q : Option Value → Shared → Prop} (hot : HotAt A x s.heap) (ne : x ≠ it) (hit : s.heap.IsTupleIter it t i) (ht : s.heap.IsTuple t items) (hx : items[i]? = none) (q : ∀ g : Heap, Heap.ExtBut it s.heap g → Q none { s with heap := g }) : wpAny (model prog w) A (pyNext (.ref it)) Q E s := by
  unfold pyNext
  refine wpAny_bind (wpAny_attempt (wpAny_callSpecial?_slot (name := Str.ofString "__next__") hit.typeIs F.slot_tuple_iterator_next (wpAny_call_entry F.slot_tuple_iterator_next hit.typeIs F.entry_tuple_iterator_next (tup_stop (A := A.in1) hot ne hit ht hx fun g e kp he => ?_) (F.args_tuple_iterator_next_1 _))))
  obtain ⟨o, ho, hc⟩ := he
  exact wpAny_bind (wpAny_isInstance (T := "StopIteration") (b := true) ⟨o, ho, hc⟩ isSubtype_stop (wpAny_pure (q g kp)))
theorem list_stop {it t x : Addr} {i : Nat} {items : Array Value} {Q : Fin → Shared → Prop} (hot : HotAt A x s.heap) (ne : x ≠ it) (hit : s.heap.IsListIter it t i) (ht : s.heap.IsList t items) (hx : items[i]? = none)
    (q : ∀ (g : Heap) (e : Addr), Heap.ExtBut it s.heap g → (∃ o, g.get? e = some o ∧ o.cls = .type "StopIteration") → E (.ref e) { s with heap := g }) : wpAny (model prog w) A (Builtin.«list_iterator.__next__» ⟨[.ref it], []⟩) Q E s := by
  obtain ⟨o, ho, hc, hd⟩ := hit
  obtain ⟨ol, hol, _, nl, hdl⟩ := ht
  refine (show wpAny _ _ (field (.ref it) 0 >>= _) _ _ s from wpAny_bind (wpAny_field ho hd (x := .ref t) rfl ?_))
  rw [if_neg (show (Value.ref t == Value.none) ≠ true from Bool.false_ne_true)]
  refine wpAny_bind (wpAny_field (s := s) ho hd (x := .int i 0) rfl (wpAny_bind (wpAny_seqItems hol hdl ?_)))
  simp only [hx, Int.toNat_natCast]
  refine wpAny_bind (wpAny_rule (wpAny_bind (wpAny_setField ho hd (by simp) ?_)))
  exact stop_it (hot_far hot ne (Heap.SameBut.update ..).extBut) fun g e kp he => q g e (fun b u hb z => kp b u ((Heap.SameBut.update ..).extBut b u hb z)) he
theorem next_list_end {it t x : Addr} {i : Nat} {items : Array Value} {Q : Option Value → Shared → Prop} (hot : HotAt A x s.heap) (ne : x ≠ it) (hit : s.heap.IsListIter it t i) (ht : s.heap.IsList t items) (hx : items[i]? = none) (q : ∀ g : Heap, Heap.ExtBut it s.heap g → Q none { s with heap := g }) : wpAny (model prog w) A (pyNext (.ref it)) Q E s := by
  unfold pyNext
  refine wpAny_bind (wpAny_attempt (wpAny_callSpecial?_slot (name := Str.ofString "__next__") hit.typeIs slot_listiter_next (wpAny_call_entry slot_listiter_next hit.typeIs entry_listiter_next (list_stop (A := A.in1) hot ne hit ht hx fun g e kp he => ?_) (args_listiter_next _))))
  obtain ⟨o, ho, hc⟩ := he
  exact wpAny_bind (wpAny_isInstance (T := "StopIteration") (b := true) ⟨o, ho, hc⟩ isSubtype_stop (wpAny_pure (q g kp)))
theorem walks_listH {x I ax : Addr} (ne : ax ≠ I) (nx : x ≠ I) (items : Array Value) : Walks prog w A I [I, ax, x] [I] items.size (fun i v => items[i]? = some v) (fun i h => h.IsListIter I ax i ∧ h.IsList ax items ∧ HotAt A x h) where
  sub := fun b hb => by simp at hb; simp [hb]
  frame := fun i h h' ⟨a, b, hh, o, vs, h1, r⟩ k => ⟨a.at fun o e => k I (by simp) o e, b.at fun o e => k ax (by simp) o e, hh, o, vs, k x (by simp) _ h1, r⟩
  item := fun i s Q E lt ⟨a, b, c⟩ q => wpAny_pyNext_list_item a b (x := items[i]) (by simp [lt]) fun g ig kg => q _ g s.toks (by simp [lt]) ⟨ig, b.extBut kg.extBut ne, hot_far c nx kg.extBut⟩ fun u o hu e => kg.extBut u o (fun z => hu (by simp [z])) e
  done := fun s Q E ⟨a, b, c⟩ q => next_list_end c nx a b (by simp) fun g kg => q g s.toks fun u o hu e => kg u o (fun z => hu (by simp [z])) e
  self := fun i s Q E st q => wpAny_pyIter_listiter st.1 q
/-- zip of two tuples at its end -/
theorem zip_end {z TI TO i1 i2 l1 l2 x : Addr} {k1 k2 : Nat} {xs ys : Array Value} {a b : Value} {Q : Fin → Shared → Prop} (hot : HotAt A x s.heap) (nz : x ≠ z) (n1 : x ≠ i1) (nT : x ≠ TO) (n2 : x ≠ i2) (D : ZipApart z TI TO i1 i2 l1 l2)
    (hz : IsZip s.heap z TI TO .none) (hTI : IsPair s.heap TI (.ref i1) (.ref i2)) (hTO : IsPair s.heap TO a b) (h1 : s.heap.IsTupleIter i1 l1 k1) (h2 : s.heap.IsTupleIter i2 l2 k2) (t1 : s.heap.IsTuple l1 xs) (t2 : s.heap.IsTuple l2 ys) (en : xs[k1]? = none ∨ ys[k2]? = none)
    (q : ∀ (g : Heap) (e : Addr), (∀ c o, c ≠ z → c ≠ TO → c ≠ i1 → c ≠ i2 → s.heap.get? c = some o → g.get? c = some o) → (∃ o, g.get? e = some o ∧ o.cls = .type "StopIteration") → E (.ref e) { s with heap := g }) : wpAny (model prog w) A (Builtin.«zip.__next__» ⟨[.ref z], []⟩) Q E s := by
  refine wpAny_bind (m := field (.ref z) 2) (wpAny_field hz rfl (x := .bool false) rfl (wpAny_bind (m := field (.ref z) 3) (wpAny_field hz rfl (x := .ref TI) rfl (wpAny_bind (wpAny_seqItems hTI rfl ?_)))))
  refine wpAny_bind (m := Builtin.SmallTypes.ownedTupleIsFree (.ref z)) ?_
  unfold Builtin.SmallTypes.ownedTupleIsFree
  refine wpAny_bind (wpAny_field hz rfl (x := .none) rfl (wpAny_pure ?_))
  simp only [if_true]
  refine wpAny_bind (wpAny_rule (wpAny_bind (wpAny_field hz rfl (x := .ref TO) rfl (wpAny_bind (wpAny_setField_rec hz (by simp) fun ga za ka => wpAny_bind ?_)))))
  have za' : IsZip ga z TI TO .ellipsis := za
  have hota : HotAt A x ga := hot_far hot nz ka.extBut
  have i1a := h1.extBut ka.extBut D.i1z
  have l1a := t1.extBut ka.extBut D.l1z
  simp only [List.forIn_cons, List.forIn_nil, List.zipIdx_cons, List.zipIdx_nil]
  refine wpAny_bind (wpAny_bind (wpAny_onRaise ?_))
  change wpAny _ _ (Builtin.SmallTypes.nextOf (.ref i1) >>= _) _ _ _
  have back : ∀ {g : Heap} {e : Addr}, IsZip g z TI TO .ellipsis → (∃ o, g.get? e = some o ∧ o.cls = .type "StopIteration") → (∀ c o, c ≠ z → c ≠ TO → c ≠ i1 → c ≠ i2 → s.heap.get? c = some o → g.get? c = some o) → wpAny (model prog w) A (setField (.ref z) 0 .none) (fun _ s1 => E (.ref e) s1) E { s with heap := g } := fun {g e} zg ⟨o, ho, hc⟩ kp => by
    have ez : e ≠ z := fun y => by
      rw [y, zg] at ho
      cases ho
      simp at hc
    exact wpAny_setField_rec zg (by simp) fun g2 _ k2 => q g2 e (fun c o c1 c2 c3 c4 y => k2.extBut _ _ c1 (kp c o c1 c2 c3 c4 y)) ⟨o, k2.extBut _ _ ez ho, hc⟩
  cases hx : xs[k1]? with
  | none => exact wpAny_bind (tup_end (s := { s with heap := ga }) hota n1 i1a l1a hx fun g e kp he => back (kp _ _ D.i1z.symm za') he fun c o c1 _ c3 _ y => kp _ _ c3 (ka.extBut _ _ c1 y))
  | some v =>
    have hy : ys[k2]? = none := en.elim (fun y => by rw [hx] at y; cases y) id
    refine wpAny_bind (RZ.nextOf_tuple_item i1a l1a hx fun gb i1b kb => wpAny_pure ?_)
    have TOb : IsPair gb TO a b := kb.extBut _ _ D.TOi1 (ka.extBut _ _ D.TOz hTO)
    refine wpAny_bind (wpAny_seqItems TOb rfl (wpAny_bind (wpAny_updateSeq_pair TOb fun gc TOc kc => wpAny_bind (wpAny_letGo (wpAny_pure ?_)))))
    refine wpAny_bind (wpAny_bind (wpAny_onRaise ?_))
    change wpAny _ _ (Builtin.SmallTypes.nextOf (.ref i2) >>= _) _ _ _
    have i2c := ((h2.extBut ka.extBut D.i2z).extBut kb.extBut D.i12.symm).extBut kc.extBut D.TOi2.symm
    have l2c := ((t2.extBut ka.extBut D.l2z).extBut kb.extBut D.l2i1).extBut kc.extBut D.l2TO
    have hotc : HotAt A x gc := hot_far (hot_far hota n1 kb.extBut) nT kc.extBut
    exact wpAny_bind (tup_end (s := { s with heap := gc }) hotc n2 i2c l2c hy fun g e kp he => back (kp _ _ D.i2z.symm (kc.extBut _ _ D.TOz.symm (kb.extBut _ _ D.i1z.symm za'))) he fun c o c1 c2 c3 c4 y => kp _ _ c4 (kc.extBut _ _ c2 (kb.extBut _ _ c3 (ka.extBut _ _ c1 y))))
theorem next_zip_end {z TI TO i1 i2 l1 l2 x : Addr} {k1 k2 : Nat} {xs ys : Array Value} {a b : Value} {Q : Option Value → Shared → Prop} (hot : HotAt A x s.heap) (nz : x ≠ z) (n1 : x ≠ i1) (nT : x ≠ TO) (n2 : x ≠ i2) (D : ZipApart z TI TO i1 i2 l1 l2)
    (hz : IsZip s.heap z TI TO .none) (hTI : IsPair s.heap TI (.ref i1) (.ref i2)) (hTO : IsPair s.heap TO a b) (h1 : s.heap.IsTupleIter i1 l1 k1) (h2 : s.heap.IsTupleIter i2 l2 k2) (t1 : s.heap.IsTuple l1 xs) (t2 : s.heap.IsTuple l2 ys) (en : xs[k1]? = none ∨ ys[k2]? = none)
    (q : ∀ g : Heap, (∀ c o, c ≠ z → c ≠ TO → c ≠ i1 → c ≠ i2 → s.heap.get? c = some o → g.get? c = some o) → Q none { s with heap := g }) : wpAny (model prog w) A (pyNext (.ref z)) Q E s := by
  have ty : s.TypeIs (.ref z) "zip" := ⟨_, hz, rfl⟩
  unfold pyNext
  refine wpAny_bind (wpAny_attempt (wpAny_callSpecial?_slot (name := Str.ofString "__next__") ty F.slot_zip_next (wpAny_call_entry F.slot_zip_next ty F.entry_zip_next (zip_end (A := A.in1) hot nz n1 nT n2 D hz hTI hTO h1 h2 t1 t2 en fun g e kp he => ?_) (F.args_zip_next_1 _))))
  obtain ⟨o, ho, hc⟩ := he
  exact wpAny_bind (wpAny_isInstance (T := "StopIteration") (b := true) ⟨o, ho, hc⟩ isSubtype_stop (wpAny_pure (q g kp)))
/-- a tuple is unpacked -/
theorem unpack_hot {t x : Addr} {items : Array Value} {targets : List (Bool × (Value → Sem Unit))} {Q : Unit → Shared → Prop} (hot : HotAt A x s.heap) (ht : IsTup s.heap t items) (hn : targets.length = items.size) (hs : targets.findIdx? (·.1) = none)
    (q : ∀ g : Heap, (∀ b u, s.heap.get? b = some u → g.get? b = some u) → wpAny (model prog w) A (assignInOrder (targets.map (·.2)) items.toList) Q E { s with heap := g }) : wpAny (model prog w) A (unpack (.ref t) targets) Q E s := by
  have tl : t < s.heap.objs.size := by
    obtain ⟨o, ho, _⟩ := ht
    exact Heap.lt_size ho
  have xl : x < s.heap.objs.size := by
    obtain ⟨_, o, _, ho, _⟩ := hot
    exact Heap.lt_size ho
  unfold unpack unpackItems
  rw [hs, hn]
  refine wpAny_bind (wpAny_holding ?_)
  unfold notIterableAtAll
  refine wpAny_bind (wpAny_bind (wpAny_specialOf ht.typeIs slot_tuple_iter.lookup (wpAny_pure ?_)))
  simp only [Bool.false_eq_true, if_false]
  refine wpAny_bind (wpAny_holding (iter_tuple ht (wpAny_bind (wpAny_holding ?_))))
  refine draw_tuple (Nat.ne_of_lt tl) items.size 0 _ _ ⟨_, Heap.get?_push_size _ rfl, rfl, rfl⟩ (ht.push _) (by omega) fun g it kg => ?_
  have al : List.take items.size (List.drop 0 items.toList) = items.toList := by
    rw [List.drop_zero]
    exact List.take_of_length_le (by simp)
  rw [al, if_neg (by simp)]
  have tg : IsTup g t items := (ht.push _).extBut kg.extBut (Nat.ne_of_lt tl)
  have up : ∀ b u, s.heap.get? b = some u → g.get? b = some u := fun b u e => kg.extBut _ _ (Nat.ne_of_lt (Heap.lt_size e)) (Heap.get?_push_of_some _ e)
  have hg : HotAt A x g := by
    obtain ⟨hh, o, vs, h1, r⟩ := hot
    exact ⟨hh, o, vs, up _ _ h1, r⟩
  obtain ⟨o, ho, hc, hd⟩ := it
  obtain ⟨o2, ho2, hc2, nl, hd2⟩ := tg
  refine wpAny_bind (wpAny_holding (next_tup_end (s := { s with heap := g }) hg (Nat.ne_of_lt xl) (t := t) (i := 0 + items.size) (items := items) ⟨o, ho, hc, hd⟩ ⟨o2, ho2, hc2, nl, hd2⟩ (by simp) fun g2 k2 => ?_))
  simp only [Option.isSome_none, Bool.false_eq_true, if_false]
  exact wpAny_pure (q g2 fun b u e => k2 b u (Nat.ne_of_lt (Heap.lt_size e)) (up b u e))
end
section
variable {X : Cx}
theorem hot_pin {pins : List (Addr × Obj)} {σ : L2.St} {H : Hp} {s : Shared} (hc : L2H.HotC X) (I : Inv X pins σ H s) : ∃ p ∈ X.pn, HotAt X.A p.1 s.heap := by
  obtain ⟨p, ⟨hh, v1, e1, c1⟩, hp⟩ := hc
  exact ⟨p, hp, hh, p.2, v1, (I.pin p (List.mem_append_left _ hp)).1, e1, c1⟩
theorem pg_tupH {es : List Expr} {k n : Nat} {t : TGs} {pos : Pos} (hc : L2H.HotC X) (h : PGs X es t) (hn : (assignEach es X.env).length = n := by rfl) (hst : (assignEach es X.env).findIdx? (·.1) = none := by rfl) : PG X (.Tuple es k pos) (gTup X.K n t) := ⟨fun pins s σ H v u Q I r hw => by
  obtain ⟨a, xs, e, sq, len, q⟩ := hw
  subst e
  cases r
  obtain ⟨us, rv, tp, _⟩ := I.tuple sq
  obtain ⟨p, _, hot⟩ := hot_pin hc I
  rw [assign_Tuple]
  have cnt : (assignEach es X.env).length = us.toArray.size := by rw [hn, ← len, rv.length]; simp
  exact wpAny_bind (wpAny_standAt (unpack_hot hot tp cnt hst fun g up => h.run pins _ σ H xs _ Q (I.kept (t' := s.toks) up) (by simpa using rv) q))⟩
theorem zip_turnH {P : Program} {w : World} {K : PySem.W.Frag} {elts : List Expr} {kk : Nat} {tpos : Pos} {a b z TI TO i1 i2 : Addr} (D : ZipApart z TI TO i1 i2 a b) :
    L2H.TurnH P w K (.Tuple elts kk tpos) (RZ.ItzT K a b) [z, TI, TO, i1, i2] z (fun i h => IsZip h z TI TO .none ∧ IsPair h TI (.ref i1) (.ref i2) ∧ (∃ x y, IsPair h TO x y) ∧ h.IsTupleIter i1 a i ∧ h.IsTupleIter i2 b i) where
  mem := (RZ.turn_zipT (P := P) (w := w) (K := K) (elts := elts) (kk := kk) (tpos := tpos) D).mem
  obj := (RZ.turn_zipT (P := P) (w := w) (K := K) (elts := elts) (kk := kk) (tpos := tpos) D).obj
  keep := (RZ.turn_zipT (P := P) (w := w) (K := K) (elts := elts) (kk := kk) (tpos := tpos) D).keep
  self := (RZ.turn_zipT (P := P) (w := w) (K := K) (elts := elts) (kk := kk) (tpos := tpos) D).self
  done := fun X e1 e2 e3 hc i pins s σ H E I fr ⟨zz, pI, ⟨u, v, pO⟩, t1, t2⟩ ⟨xs, ys, sx, sy, en⟩ => by
    subst e1 e2 e3
    obtain ⟨us, ru, p1, _⟩ := I.tuple sx
    obtain ⟨vs, rv, p2, _⟩ := I.tuple sy
    have lu := ru.length
    have lv := rv.length
    obtain ⟨p, hp, hot⟩ := hot_pin hc I
    have ap : ∀ c ∈ [z, TI, TO, i1, i2], p.1 ≠ c := fun c hm => (fr c hm).2.2.2.2.2 p (List.mem_append_left _ hp)
    refine next_zip_end hot (ap z (by simp)) (ap i1 (by simp)) (ap TO (by simp)) (ap i2 (by simp)) D zz pI pO t1 t2 p1 p2 (en.imp (fun q => by simp; omega) fun q => by simp; omega) fun g kp => ⟨rfl, I.turnedL (t' := s.toks) (ch := [z, TI, TO, i1, i2]) (fun c o hm e => ?_) fr⟩
    simp only [List.mem_cons, List.not_mem_nil, or_false, not_or] at hm
    exact kp c o hm.1 hm.2.2.1 hm.2.2.2.1 hm.2.2.2.2 e
  item := fun X e1 e2 e3 hc i pins s σ H E I fr ⟨zz, pI, ⟨u0, v0, pO⟩, t1, t2⟩ ⟨xs, ys, x, y, sx, sy, hx, hy⟩ => by
    subst e1 e2 e3
    obtain ⟨us, ru, p1, _⟩ := I.tuple sx
    obtain ⟨vs, rv, p2, _⟩ := I.tuple sy
    obtain ⟨u, hu, xu⟩ := ru.get hx
    obtain ⟨v, hv, yv⟩ := rv.get hy
    have lz := Heap.lt_size zz
    refine RZ.pyNext_zipT_item D zz pI pO t1 t2 p1 p2 (x := u) (y := v) (by simpa using hu) (by simpa using hv) fun g zg Og ig1 ig2 new _ kp => ⟨_, rfl, wpAny_letOwnedTupleGo_zip (s := { s with heap := g }) zg fun g2 zg2 sb => ?_⟩
    have far : ∀ c o, c ∉ [z, TI, TO, i1, i2] → s.heap.get? c = some o → g2.get? c = some o := fun c o hm e => by
      simp only [List.mem_cons, List.not_mem_nil, or_false, not_or] at hm
      exact (sb.2 c hm.1).trans (kp c o hm.1 hm.2.2.1 hm.2.2.2.1 hm.2.2.2.2 e)
    have new2 := (sb.2 _ (Nat.ne_of_gt lz)).trans new
    have I1 : Inv X pins σ (upd H s.heap.objs.size (.tup [x, y])) { s with heap := g2 } := I.turnedNew (t' := s.toks) (ch := [z, TI, TO, i1, i2]) far fr (Nat.le_refl _) ⟨by show 2 ≤ sizeLine; decide, [u, v], .cons xu (.cons yv .nil), _, new2, rfl, _, rfl⟩
    refine ⟨.ref s.heap.objs.size, _, I1, rfl, ⟨_, x, y, rfl, I.hok.fresh (Nat.le_refl _), rfl, fun l hl => by rwa [I.tuple_inj hl sx], fun l hl => by rwa [I.tuple_inj hl sy]⟩, ⟨zg2, (sb.2 _ D.TIz).trans (kp _ _ D.TIz D.TITO D.TIi1 D.TIi2 pI), ⟨u, v, (sb.2 _ D.TOz).trans Og⟩, ig1.at fun o e => (sb.2 _ D.i1z).trans e, ig2.at fun o e => (sb.2 _ D.i2z).trans e⟩, fun c hm => ?_⟩
    have lt : c < s.heap.objs.size := by
      obtain ⟨o, e, _⟩ := (RZ.turn_zipT (P := X.prog) (w := X.w) (K := X.K) (elts := elts) (kk := kk) (tpos := tpos) D).obj i s.heap ⟨zz, pI, ⟨u0, v0, pO⟩, t1, t2⟩ c hm
      exact Heap.lt_size e
    rw [upd_ne (Nat.ne_of_lt lt)]
    exact (fr c hm).1
theorem cr_allH (hc : L2H.HotC X) : CallR X (.builtin "all") (rAll X.K) := fun pins s σ H vs us Q I r ⟨a, bs, e, sl, q⟩ => by
  subst e
  obtain ⟨its, rv, hl, _⟩ := I.list sl
  rw [Vals.ref1 r]
  have hb := rv.bls
  obtain ⟨p, hp, hot⟩ := hot_pin hc I
  have pl : p.1 < s.heap.objs.size := by
    obtain ⟨_, o, _, ho, _⟩ := hot
    exact Heap.lt_size ho
  refine call_all_walk (iter_any hl.isList fun s2 e2 st hne => ?_)
  subst e2
  obtain ⟨hh, o, v1, ho, rr⟩ := id hot
  refine ⟨_, _, _, _, _, _, _, rfl, walks_listH (A := X.A.in1) (x := p.1) hne (Nat.ne_of_lt pl) its.toArray, ⟨st.1, st.2, hh, o, v1, Heap.get?_push_of_some _ ho, rr⟩, truth_bools hb, fun g tk hk => ⟨.bl _, H, I.kept fun b o eo => hk b o (fun hm => ?_) (Heap.get?_push_of_some _ eo), ?_, q⟩⟩
  · obtain rfl := List.mem_singleton.mp hm
    exact Nat.lt_irrefl _ (Heap.lt_size eo)
  · rw [← L2.all_range]
    show Value.bool _ = Value.bool _
    rw [hb, List.size_toArray, List.length_map]
def iZipH (K : PySem.W.Frag) (ta : TA) : TI := fun σ H R => ta σ H fun vs H1 => ∃ a b xs ys, vs = [.ref a, .ref b] ∧ SqT K H1 a xs ∧ SqT K H1 b ys ∧ R (RZ.ItzT K a b) H1
theorem pi_zipH {e e2 : Expr} {ta : TA} {p pos tpos : Pos} {elts : List Expr} {kk : Nat} (hg : Gl X "zip") (hm : X.mg "zip" = none) (ha : PA X [e, e2] ta) (hs : starEach [e, e2] X.env = (false, eval e X.env) :: starEach [e2] X.env := by rfl) (hpl : (backTo pos (starEach [e2] X.env)).any (·.1) = false := by rfl) :
    L2H.PIH X (.Tuple elts kk tpos) (.Call (.Name "zip" p) [e, e2] [] pos) (iZipH X.K ta) := ⟨fun pins s σ H R I h => Call_ (ld_blt I hg hm PyProof.Rows.boot_zip (PyProof.Rows.callWith_type1 (thn (ha.run pos pins s σ H _ I h) fun us s1 ⟨vs, H1, I1, rr, a, b, xs, ys, ev, sx, sy, q⟩ => by
  subst ev
  obtain ⟨u, r1, e1, k1, rr⟩ : ∃ u r1, us = u :: r1 ∧ RelV (.ref a) u ∧ Vals [.ref b] r1 := by
    cases rr with
    | cons k kk => exact ⟨_, _, rfl, k, kk⟩
  obtain ⟨u2, e2, k2⟩ : ∃ u2, r1 = [u2] ∧ RelV (.ref b) u2 := by
    cases rr with
    | cons k kk =>
      cases kk
      exact ⟨_, rfl, k⟩
  subst e1 e2
  cases k1
  cases k2
  obtain ⟨is1, rv, p1, _⟩ := I1.tuple sx
  obtain ⟨is2, rv2, p2, _⟩ := I1.tuple sy
  have la : a < s1.heap.objs.size := by
    obtain ⟨o, ho, _⟩ := id p1
    exact Heap.lt_size ho
  have lb : b < s1.heap.objs.size := by
    obtain ⟨o, ho, _⟩ := id p2
    exact Heap.lt_size ho
  refine RZ.call_zipT p1 p2 fun g hz hI hO j1 j2 _ kp => wpAny_pyIter_zip hz ⟨s1.heap.objs.size + 4, [s1.heap.objs.size + 4, s1.heap.objs.size + 2, s1.heap.objs.size + 3, s1.heap.objs.size, s1.heap.objs.size + 1], _, _, H1, rfl, I1.kept (t' := s1.toks) kp, zip_turnH (PySem.W.ktu_apart s1.heap.objs.size a b la lb), ⟨hz, hI, ⟨_, _, hO⟩, j1, j2⟩, fun c hm => ?_, q⟩
  have le : s1.heap.objs.size ≤ c := by
    simp only [List.mem_cons, List.not_mem_nil, or_false] at hm
    rcases hm with z | z | z | z | z <;> rw [z] <;> first | exact Nat.le_refl _ | exact Nat.le_add_right _ _
  exact I1.fpOk le (I1.hok.fresh le)) hs hpl))⟩
/-- the block of a comprehension while an exception is handled -/
abbrev bkH (X : Cx) (p : Addr × Obj) (s : Shared) (H : Hp) (scope : Scope) (ce : PySem.Env) (fp : List Addr) : Cx := { X.blk s H scope ce fp with pn := [p] }
theorem inv_bk {p : Addr × Obj} {s0 s : Shared} {H0 H : Hp} {scope : Scope} {ce : PySem.Env} {fp : List Addr} {pins : List (Addr × Obj)} {σ : L2.St} (I : Inv (X.blk s0 H0 scope ce fp) pins σ H s) (hp : s.heap.get? p.1 = some p.2 ∧ H p.1 = none ∧ p.1 ≠ ce.locals ∧ p.1 ∉ frs X.stack ∧ ∀ v, p.2.data ≠ .cell v) : Inv (bkH X p s0 H0 scope ce fp) pins σ H s where
  ok := ⟨I.ok.mod, I.ok.kind, I.ok.glob, I.ok.blt, I.ok.above, I.ok.inj, I.ok.has, I.ok.cab, I.ok.hd, I.ok.frames, I.ok.stk, I.ok.exf, I.ok.bs, I.ok.bsz, I.ok.noex, I.ok.exfs, I.ok.funs, I.ok.frf⟩
  os := I.os
  bare := I.bare
  base := I.base
  loc := I.loc
  cell := I.cell
  free := I.free
  freeC := I.freeC
  pin := fun q hq => by
    rcases List.mem_cons.mp (show q ∈ p :: pins from hq) with e | e
    · rw [e]
      exact hp
    · exact I.pin q (List.mem_append_right _ e)
  hok := I.hok
  len := I.len
theorem pe_lcH {p : Addr × Obj} {r : List (Addr × Obj)} {elt tg iter : Expr} {ifs : List Expr} {scope : Scope} {own : List (Str × Nat)} {pos : Pos} {wi : TI} {g : TG} {tt : TT} {te : TE} (ep : X.pn = p :: r) (hot : L2H.Hot1 X.A p) (hN : X.N.Nodup) (hi : L2H.PIH X tg iter wi) (ok : BlkOk X.N X.env.scope scope own)
    (hg : ∀ (s : Shared) (H : Hp) (C : Addr) (cl : List (Str × Addr)) (fp : List Addr), PG (bkH X p s H scope (compEnvC scope cl C X.env) fp) tg g) (ht : ∀ (s : Shared) (H : Hp) (C : Addr) (cl : List (Str × Addr)) (fp : List Addr), PTs (bkH X p s H scope (compEnvC scope cl C X.env) fp) ifs tt)
    (he : ∀ (s : Shared) (H : Hp) (C : Addr) (cl : List (Str × Addr)) (fp : List Addr), PE (bkH X p s H scope (compEnvC scope cl C X.env) fp) elt te) (hs : ∀ x, foldedSetIterable iter X.env x = pure x := by intro _; rfl) :
    PE X (.ListComp elt [⟨tg, iter, ifs, 0⟩] scope pos) (tLc wi g tt te (own.map (·.2))) := ⟨fun pins s σ H Q I h => by
  have pm : p ∈ X.pn := by rw [ep]; exact List.mem_cons_self
  rw [eval_ListComp]
  have cells : ∀ y ∈ scope.names, y.2 = .free → ∃ c, X.env.cells.lookup y.1 = some c := fun y hy e => (ok.free y hy e).elim (fun k => I.ok.has _ (.inl k)) fun k => I.ok.has _ (.inr k)
  refine wpAny_comprehension_free (use := none) rfl hs (closure_ok cells) ok.kind (fun y hy e => by rw [ok.uniq y hy, e]) (thn (hi.run pins s σ H _ I h) fun _ s1 k1 => thn k1 fun _ s2 k2 => ?_)
  obtain ⟨it, fp, tn, J, H2, rfl, I2, T, at2, fr2, q⟩ := k2
  refine wpAny_newObj_type (newEnv_comp ?_) (by show 0 ≤ sizeLine; decide)
  have DN : H2 s2.heap.objs.size = none := I2.hok.fresh (Nat.le_refl _)
  obtain ⟨W, ⟨m0, w0⟩, turn⟩ := q _ DN
  generalize hD : s2.heap.objs.size = D at *
  generalize hB : ({ s2 with heap := s2.heap.push { cls := .type "list", data := .seq ([] : List Value).toArray } } : Shared) = sB
  have hBh : sB.heap = s2.heap.push { cls := .type "list", data := .seq ([] : List Value).toArray } := by rw [← hB]
  have IB : Inv X pins σ (upd H2 D (.lst [])) sB := by
    rw [← hB]
    exact I2.laid (t' := s2.toks) (fun b o e => Heap.get?_push_of_some _ e) (Nat.le_of_eq hD) ⟨Nat.zero_le _, [], 0, .nil, by rw [← hD]; exact Heap.get?_push_size _ rfl⟩
  have frB : ∀ b ∈ fp, FpOk X pins (upd H2 D (.lst [])) b ∧ b < sB.heap.objs.size := fun b hb => by
    obtain ⟨o, e, _⟩ := T.obj _ _ at2 b hb
    have lt := Heap.lt_size e
    refine ⟨⟨?_, (fr2 b hb).2⟩, by rw [hBh, Heap.size_push]; exact Nat.lt_succ_of_lt lt⟩
    rw [upd_ne (by rw [← hD]; exact Nat.ne_of_lt lt)]
    exact (fr2 b hb).1
  have atB : tn 0 sB.heap := T.keep _ _ _ at2 fun b _ o e => by rw [hBh]; exact Heap.get?_push_of_some _ e
  have I4 := block_start IB ok hN frB
  have bg := hg sB (upd H2 D (.lst [])) sB.heap.objs.size (cellsFrom (sB.heap.objs.size + 1) scope.names (cloFrom X.env.cells scope.names [])) fp
  have bt := ht sB (upd H2 D (.lst [])) sB.heap.objs.size (cellsFrom (sB.heap.objs.size + 1) scope.names (cloFrom X.env.cells scope.names [])) fp
  have be := he sB (upd H2 D (.lst [])) sB.heap.objs.size (cellsFrom (sB.heap.objs.size + 1) scope.names (cloFrom X.env.cells scope.names [])) fp
  change codeAny _ _ (.compStart (.ListComp elt [⟨tg, iter, ifs, 0⟩] scope pos) 0 (.ref it) (.ref D) (compEnvC scope (cellsFrom (sB.heap.objs.size + 1) scope.names (cloFrom X.env.cells scope.names [])) sB.heap.objs.size X.env)) (compPost (model X.prog X.w) X.A X.xe none _ (.ref D) sB.heap.objs.size) { sB with heap := pushCells (sB.heap.push { cls := .type "dict", data := .dict #[] }) scope.names }
  have off : ∀ b ∈ fp, (upd H2 D (.lst [])) b = none := fun b hb => (frB b hb).1.1
  have pz := IB.pin p (List.mem_append_left _ pm)
  generalize hCE : compEnvC scope (cellsFrom (sB.heap.objs.size + 1) scope.names (cloFrom X.env.cells scope.names [])) sB.heap.objs.size X.env = ce at I4 bg bt be ⊢
  have ceL : ce.locals = sB.heap.objs.size := by rw [← hCE]; rfl
  generalize hHB : upd H2 D (.lst []) = HB at *
  generalize hS : ({ sB with heap := pushCells (sB.heap.push { cls := .type "dict", data := .dict #[] }) scope.names } : Shared) = sC at I4 ⊢
  have upC : ∀ b o, sB.heap.get? b = some o → sC.heap.get? b = some o := fun b o e => by rw [← hS]; exact pushCells_keeps _ _ _ _ (Heap.get?_push_of_some _ e)
  have I5 : Inv (bkH X p sB HB scope ce fp) [] (wipe σ (own.map (·.2))) HB sC := inv_bk I4 ⟨upC _ _ pz.1, pz.2.1, fun z => by
    have := Heap.lt_size pz.1
    rw [z, ceL] at this
    exact Nat.lt_irrefl _ this, fun hm => (List.mem_cons.mp (IB.stkSub p.1 hm)).elim pz.2.2.1 pz.2.2.2.1, pz.2.2.2.2⟩
  have hotB : L2H.HotC (bkH X p sB HB scope ce fp) := ⟨p, hot, List.mem_cons_self⟩
  have atC : tn 0 sC.heap := T.keep _ _ _ atB fun b _ o e => upC b o e
  have frK : ∀ {σ' : L2.St} {H' : Hp} {s' : Shared}, Inv (bkH X p sB HB scope ce fp) [] σ' H' s' → (∀ b ∈ fp, H' b = none) → ∀ b ∈ fp, FpOk (bkH X p sB HB scope ce fp) [] H' b := fun {σ' H' s'} J hn b hb => ⟨hn b hb, (J.ok.exf b hb).1, J.ok.exfs b hb, .inl hb, (J.ok.exf b hb).2, fun q hq => by
    rcases List.mem_cons.mp (show q ∈ p :: [] from hq) with z | z
    · rw [z]
      exact (frB b hb).1.2.2.2.2.2 p (List.mem_append_left _ pm)
    · cases z⟩
  have loop : codeAny (model X.prog X.w) X.A (.compLoop (.ListComp elt [⟨tg, iter, ifs, 0⟩] scope pos) 0 (.ref it) (.ref D) ce) (compPost (model X.prog X.w) X.A X.xe none (EP X pins σ Q) (.ref D) sB.heap.objs.size) sC := by
    refine compLoop_any (fun n s' => ∃ i H', Inv (bkH X p sB HB scope ce fp) [] (wipe σ (own.map (·.2))) H' s' ∧ tn i s'.heap ∧ (∀ b ∈ fp, H' b = none) ∧ W i n H') (fun n s5 hI => ?_) m0 ⟨0, HB, I5, atC, off, w0⟩
    obtain ⟨i, H5, J5, at5, off5, w5⟩ := hI
    rcases turn i n H5 w5 with ⟨sp, qq⟩ | ⟨go, Nx, hNx, step⟩
    · refine thnF (T.done (bkH X p sB HB scope ce fp) rfl rfl rfl hotB i [] s5 _ H5 (fun _ _ => False) J5 (frK J5 off5) at5 sp) fun r s6 ⟨hr, J6⟩ => ?_
      subst hr
      have J7 : Inv X pins σ H5 s6 := IB.call' (ch := fp) J6.os J6.base J6.hok J6.bare fun b hb => ⟨(frB b hb).1.2.2.2.1, (frB b hb).1.2.1, (frB b hb).1.2.2.2.2.1, (frB b hb).1.2.2.2.2.2⟩
      have cn : H5 sB.heap.objs.size = none := by
        have z : H5 ce.locals = none := J6.free
        rwa [ceL] at z
      obtain ⟨m, hn, _⟩ := J6.loc
      have hn' : s6.heap.Ns ce.locals m := hn
      rw [ceL] at hn'
      obtain ⟨_, f1, f2, f3, f4, f5⟩ := IB.fpOk (Nat.le_refl _) cn
      exact ⟨m, hn', fun g sb => ⟨.ref D, H5, J7.turned (t' := s6.toks) (fun b o hb e => (sb.2 b hb).trans e) cn f1 f3 f4 f5, rfl, qq⟩⟩
    · refine thnF (T.item (bkH X p sB HB scope ce fp) rfl rfl rfl hotB i [] s5 _ H5 (fun _ _ => False) J5 (frK J5 off5) at5 go) fun r s6 ⟨u, hr, k6⟩ => ?_
      subst hr
      refine thnF k6 fun _ s7 ⟨x, H7, J7, r7, y7, at7, off7⟩ => ?_
      have P7 := J7.pinned (frK J7 off7) (T.obj _ _ at7)
      refine thnF (bg.run _ s7 _ H7 x u _ P7 r7 (step x H7 y7)) fun _ s8 ⟨σ8, H8, J8, hw8, q8⟩ => ?_
      refine thnF (bt.run _ s8 σ8 H8 _ J8 q8) fun b s9 ⟨H9, J9, q9⟩ => ?_
      have again : ∀ {s' : Shared} {H' : Hp}, Inv (bkH X p sB HB scope ce fp) ([] ++ pinsAt fp s7.heap) σ8 H' s' → Nx H' → ∃ m, m < n ∧ ∃ i H', Inv (bkH X p sB HB scope ce fp) [] (wipe σ (own.map (·.2))) H' s' ∧ tn i s'.heap ∧ (∀ b ∈ fp, H' b = none) ∧ W i m H' := fun {s' H'} J nx => by
        obtain ⟨m', lt, w'⟩ := hNx H' nx
        have kept : ∀ b ∈ fp, ∀ o, s7.heap.get? b = some o → s'.heap.get? b = some o ∧ H' b = none := fun b hb o e => (J.pin (b, o) (List.mem_append_right _ (List.mem_append_right _ (mem_pinsAt hb e)))).imp id (·.1)
        refine ⟨m', lt, i + 1, H', (J.unpinned (pins := [])).weak (by rw [← hw8, wipe_length]) (fun j v e => (wipe_some (by rw [hw8]; exact e)).1), T.keep _ _ _ at7 fun b hb o e => (kept b hb o e).1, fun b hb => ?_, w'⟩
        obtain ⟨o, e, _⟩ := T.obj _ _ at7 b hb
        exact (kept b hb o e).2
      cases b with
      | false =>
        simp only [if_false, Bool.false_eq_true] at q9 ⊢
        exact again J9 q9
      | true =>
        simp only [if_true] at q9 ⊢
        refine thnF (be.run _ s9 σ8 H9 _ J9 q9) fun z s10 ⟨yv, H10, J10, r10, acc, hD10, hz10, nx⟩ => ?_
        exact app_ok (X := bkH X p sB HB scope ce fp) J10 hD10 hz10 r10 fun s11 J11 => again J11 nx
  exact codeAny_compStart_list loop (T.self X.A 0 _ _ _ atC loop)⟩
end
end Sb
set_option maxHeartbeats 4000000
namespace Sb
open PySem PySem.Spec PyProof.Rows L2
theorem pih_imp {X : Cx} {tg a : Expr} {t t' : TI} (p : L2H.PIH X tg a t) (f : ∀ σ H Q, t' σ H Q → t σ H Q) : L2H.PIH X tg a t' := ⟨fun pins s σ H Q I h => p.run pins s σ H Q I (f σ H Q h)⟩
section
variable {X : Cx} {W : WX} {C : Calls} {k : Nat} {a b : Expr} {ea eb : E} {p pos : Pos}
theorem ji_zipH {elts : List Expr} {kk : Nat} {tpos : Pos} (hm : X.mg "zip" = none) (ha : JA X W C [a, b] [ea, eb]) (hg : Gl X "zip" := by rfl) (hs : starEach [a, b] X.env = (false, eval a X.env) :: starEach [b] X.env := by rfl) (hpl : (backTo pos (starEach [b] X.env)).any (·.1) = false := by rfl) :
    L2H.PIH X (.Tuple elts kk tpos) (.Call (.Name "zip" p) [a, b] [] pos) (tI (zOf X) X.mg W C .zipT [ea, eb]) :=
  pih_imp (pi_zipH hg hm ha hs hpl) fun σ H Q ⟨ρ, φ, h, sm, re, o⟩ => by
    refine ⟨ρ, φ, h, sm, re, (Out.bind (rel2 := RVs (zOf X)) (show Out (zOf X) X.mg (relW (zOf X)) φ H (atS W σ) Q ((evGs C [ea, eb] ρ h).bind _) from o)).imp fun vs H1 ⟨φ1, l, h1, x1, s1, r1, o1⟩ => ?_⟩
    obtain ⟨w, e, q⟩ := o1.some
    change walkZipT l h1 = some w at e
    unfold walkZipT at e
    split at e
    · rename_i l1 l2
      cases e
      obtain ⟨v, w, e1, rv, rw'⟩ := r1.two
      obtain ⟨ad, vs1, hx, hq, r⟩ := rv
      obtain ⟨bd, vs2, hx2, hq2, r2⟩ := rw'
      exact ⟨ad, bd, vs1, vs2, by rw [e1, hx, hx2], hq.sq, hq2.sq, q φ1 H1 _ (Ext.refl _ _) s1 (walk_zipT fun φ h H x s _ => ⟨vs1, vs2, (hq.monoK x).sq, r.monoK x, (hq2.monoK x).sq, r2.monoK x⟩)⟩
    · cases e
theorem CqX.hot1 (c : CqX X W k) {p : Addr × Obj} {r : List (Addr × Obj)} (ep : X.pn = p :: r) : L2H.Hot1 X.A p := by
  obtain ⟨p', r', e, h⟩ := c.hot
  rw [ep] at e
  cases e
  exact h
theorem CqX.bk (c : CqX X W k) {p : Addr × Obj} {r : List (Addr × Obj)} (ep : X.pn = p :: r) (s : Shared) (H : Hp) (scope : Scope) (ce : PySem.Env) (fp : List Addr) : CqX (bkH X p s H scope ce fp) W0 k := ⟨c.cold, c.nd, c.hr, takesN0, p, [], rfl, c.hot1 ep⟩
theorem CqX.hc (c : CqX X W k) : L2H.HotC X := by
  obtain ⟨p, r, e, h⟩ := c.hot
  exact ⟨p, h, by rw [e]; exact List.mem_cons_self⟩
theorem tg_tupH {es : List Expr} {kk : Nat} {pos : Pos} {is : List Nat} (c : CqX X W k) (h : PGs X es (gNs is)) (hn : (assignEach es X.env).length = is.length := by rfl) (hst : (assignEach es X.env).findIdx? (·.1) = none := by rfl) : PG X (.Tuple es kk pos) (gT X.K is .tup) := pg_tupH c.hc h hn hst
theorem je_compH {elt tg iter : Expr} {scope : Scope} {own : List (Str × Nat)} {pos : Pos} {ee : E} {is : List Nat} {one : TgK} {kd : ITK} {its : List E} (c : CqX X W k) {p : Addr × Obj} {r : List (Addr × Obj)} (ep : X.pn = p :: r) (hi : L2H.PIH X tg iter (tI (zOf X) X.mg W C kd its)) (ok : BlkOk X.N X.env.scope scope own)
    (hg : ∀ (s : Shared) (H : Hp) (C' : Addr) (cl : List (Str × Addr)) (fp : List Addr), CqX (bkH X p s H scope (compEnvC scope cl C' X.env) fp) W0 k → PG (bkH X p s H scope (compEnvC scope cl C' X.env) fp) tg (gT X.K is one))
    (he : ∀ (s : Shared) (H : Hp) (C' : Addr) (cl : List (Str × Addr)) (fp : List Addr), CqX (bkH X p s H scope (compEnvC scope cl C' X.env) fp) W0 k → JE (bkH X p s H scope (compEnvC scope cl C' X.env) fp) W0 C elt ee) (his : ∀ i ∈ is, i ∈ own.map (·.2) := by decide) (hs : ∀ x, foldedSetIterable iter X.env x = pure x := by intro _; rfl) :
    JE X W C (.ListComp elt [⟨tg, iter, [], 0⟩] scope pos) (.comp ee is one kd its none (own.map (·.2))) := by
  have hz : zOf X = ⟨X.K, [p], X.prog, X.w⟩ := z_hot c.cold ep
  have hzb : ∀ (s : Shared) (H : Hp) (ce : PySem.Env) (fp : List Addr), zOf (bkH X p s H scope ce fp) = ⟨X.K, [p], X.prog, X.w⟩ := fun s H ce fp => z_hot (X := bkH X p s H scope ce fp) c.cold rfl
  have he' : ∀ (s : Shared) (H : Hp) (C' : Addr) (cl : List (Str × Addr)) (fp : List Addr), PE (bkH X p s H scope (compEnvC scope cl C' X.env) fp) elt (tE ⟨X.K, [p], X.prog, X.w⟩ X.mg W0 C ee) := fun s H C' cl fp => by
    have z := he s H C' cl fp (c.bk ep s H scope _ fp)
    unfold JE at z
    rw [hzb] at z
    exact z
  have ht' : ∀ (s : Shared) (H : Hp) (C' : Addr) (cl : List (Str × Addr)) (fp : List Addr), PTs (bkH X p s H scope (compEnvC scope cl C' X.env) fp) [] (tCond ⟨X.K, [p], X.prog, X.w⟩ X.mg C none) := fun s H C' cl fp => pts_nil
  exact zc3 (pe_lcH (te := tE ⟨X.K, [p], X.prog, X.w⟩ X.mg W0 C ee) ep (c.hot1 ep) c.nd hi ok (fun s H C' cl fp => hg s H C' cl fp (c.bk ep s H scope _ fp)) ht' he' hs) fun σ H Q t => by
    have t' := comp_red his t
    rw [← hz]
    exact t'
theorem bi_allH {V : XK} (c : CqX X W k) : CallR X (.builtin "all") (rCa (zOf X) X.mg V biAll) := by
  intro pins s σ H vs us Q I rv hh
  obtain ⟨φ, h, ps, sm, r, o⟩ := hh
  unfold biAll at o
  split at o
  · obtain ⟨v, e, q⟩ := r.one
    subst e
    split at o
    · rename_i bs e1
      obtain ⟨l, e2, e3⟩ := Option.bind_eq_some_iff.mp e1
      obtain ⟨ad, vs, hx, hq, r'⟩ := sm.listV q e2
      rw [bools_rel r' e3] at hq
      exact cr_allH c.hc pins s σ H _ us Q I rv ⟨ad, bs, by rw [hx], hq, o.at sm rfl⟩
    · exact o.elim
  · exact o.elim
end
end Sb
namespace Sb
open PySem PySem.Spec L2
abbrev N_common : List Str := ["one", "other"]
theorem sc_common : FnScope N_common ["one", "other"] (defScope s_common) := ⟨rfl, rfl, rfl, by decide +kernel, rfl, by decide +kernel, by decide +kernel⟩
abbrev N_fraction_of : List Str := ["top", "bottom", "by"]
theorem sc_fraction_of : FnScope N_fraction_of ["top", "bottom"] (defScope zbr) := ⟨rfl, rfl, rfl, by decide +kernel, rfl, by decide +kernel, by decide +kernel⟩
abbrev N_plus_of : List Str := ["one", "other"]
theorem sc_plus_of : FnScope N_plus_of ["one", "other"] (defScope s_plus_of) := ⟨rfl, rfl, rfl, by decide +kernel, rfl, by decide +kernel, by decide +kernel⟩
abbrev N_less_of : List Str := ["one", "other"]
theorem sc_less_of : FnScope N_less_of ["one", "other"] (defScope s_less_of) := ⟨rfl, rfl, rfl, by decide +kernel, rfl, by decide +kernel, by decide +kernel⟩
abbrev N_times_of : List Str := ["one", "other"]
theorem sc_times_of : FnScope N_times_of ["one", "other"] (defScope s_times_of) := ⟨rfl, rfl, rfl, by decide +kernel, rfl, by decide +kernel, by decide +kernel⟩
abbrev N_over_of : List Str := ["one", "other"]
theorem sc_over_of : FnScope N_over_of ["one", "other"] (defScope s_over_of) := ⟨rfl, rfl, rfl, by decide +kernel, rfl, by decide +kernel, by decide +kernel⟩
abbrev N_stretch_by : List Str := ["move", "value"]
theorem sc_stretch_by : FnScope N_stretch_by ["move", "value"] (defScope zb1) := ⟨rfl, rfl, rfl, by decide +kernel, rfl, by decide +kernel, by decide +kernel⟩
abbrev N_read_by : List Str := ["move", "value"]
theorem sc_read_by : FnScope N_read_by ["move", "value"] (defScope s_read_by) := ⟨rfl, rfl, rfl, by decide +kernel, rfl, by decide +kernel, by decide +kernel⟩
abbrev N_move_then : List Str := ["one", "other"]
theorem sc_move_then : FnScope N_move_then ["one", "other"] (defScope zco) := ⟨rfl, rfl, rfl, by decide +kernel, rfl, by decide +kernel, by decide +kernel⟩
abbrev N_move_back : List Str := ["move", "a", "b"]
theorem sc_move_back : FnScope N_move_back ["move"] (defScope zcp) := ⟨rfl, rfl, rfl, by decide +kernel, rfl, by decide +kernel, by decide +kernel⟩
abbrev N_in_order : List Str := ["tellings"]
theorem sc_in_order : FnScope N_in_order ["tellings"] (defScope zc1) := ⟨rfl, rfl, rfl, by decide +kernel, rfl, by decide +kernel, by decide +kernel⟩
abbrev N_order_of : List Str := ["tellings", "telling"]
theorem sc_order_of : FnScope N_order_of ["tellings"] (defScope zc0) := ⟨rfl, rfl, rfl, by decide +kernel, rfl, by decide +kernel, by decide +kernel⟩
abbrev N_named : List Str := ["tellings", "name", "telling"]
theorem sc_named : FnScope N_named ["tellings", "name"] (defScope s_named) := ⟨rfl, rfl, rfl, by decide +kernel, rfl, by decide +kernel, by decide +kernel⟩
abbrev N_tie_rows : List Str := ["tellings", "marks", "found", "telling", "near", "far", "scale", "mark"]
theorem sc_tie_rows : FnScope N_tie_rows ["tellings"] (defScope zcz) := ⟨rfl, rfl, rfl, by decide +kernel, rfl, by decide +kernel, by decide +kernel⟩
abbrev N_ties_of : List Str := ["tellings", "telling"]
theorem sc_ties_of : FnScope N_ties_of ["tellings"] (defScope s_ties_of) := ⟨rfl, rfl, rfl, by decide +kernel, rfl, by decide +kernel, by decide +kernel⟩
abbrev N_steps_from : List Str := ["rows", "scale", "found", "name", "start", "end", "rest"]
theorem sc_steps_from : FnScope N_steps_from ["rows", "scale"] (defScope zb2) := ⟨rfl, rfl, rfl, by decide +kernel, rfl, by decide +kernel, by decide +kernel⟩
abbrev N_roads_among : List Str := ["rows", "start", "roads", "waiting", "scale", "step", "goal"]
theorem sc_roads_among : FnScope N_roads_among ["rows", "start"] (defScope zbp) := ⟨rfl, rfl, rfl, by decide +kernel, rfl, by decide +kernel, by decide +kernel⟩
abbrev N_road_among : List Str := ["rows", "start", "end"]
theorem sc_road_among : FnScope N_road_among ["rows", "start", "end"] (defScope zb3) := ⟨rfl, rfl, rfl, by decide +kernel, rfl, by decide +kernel, by decide +kernel⟩
abbrev N_reach_among : List Str := ["rows", "start"]
theorem sc_reach_among : FnScope N_reach_among ["rows", "start"] (defScope zbq) := ⟨rfl, rfl, rfl, by decide +kernel, rfl, by decide +kernel, by decide +kernel⟩
abbrev N_road_of : List Str := ["tellings", "start", "end", "road"]
theorem sc_road_of : FnScope N_road_of ["tellings", "start", "end"] (defScope s_road_of) := ⟨rfl, rfl, rfl, by decide +kernel, rfl, by decide +kernel, by decide +kernel⟩
abbrev N_chain_move : List Str := ["tellings", "chain", "moves", "whole", "name", "forth", "telling"]
theorem sc_chain_move : FnScope N_chain_move ["tellings", "chain"] (defScope zbm) := ⟨rfl, rfl, rfl, by decide +kernel, rfl, by decide +kernel, by decide +kernel⟩
abbrev N_heir_of : List Str := ["tellings", "name", "tie", "ties", "near", "telling", "other"]
theorem sc_heir_of : FnScope N_heir_of ["tellings", "name"] (defScope s_heir_of) := ⟨rfl, rfl, rfl, by decide +kernel, rfl, by decide +kernel, by decide +kernel⟩
abbrev N_bars_of : List Str := ["tellings", "ties", "names", "rows", "tie", "telling", "row"]
theorem sc_bars_of : FnScope N_bars_of ["tellings"] (defScope zci) := ⟨rfl, rfl, rfl, by decide +kernel, rfl, by decide +kernel, by decide +kernel⟩
abbrev N_words_of : List Str := ["tellings", "bars", "found", "telling", "name", "move", "word"]
theorem sc_words_of : FnScope N_words_of ["tellings"] (defScope s_words_of) := ⟨rfl, rfl, rfl, by decide +kernel, rfl, by decide +kernel, by decide +kernel⟩
abbrev N__law_start : List Str := ["_law_script", "_law_great", "_law_cell"]
theorem sc__law_start : FnScope N__law_start ["_law_script"] (defScope zba) := ⟨rfl, rfl, rfl, by decide +kernel, rfl, by decide +kernel, by decide +kernel⟩
abbrev N__law_draw : List Str := ["_law_state", "_law_many", "_law_told", "_law_size"]
theorem sc__law_draw : FnScope N__law_draw ["_law_state", "_law_many"] (defScope zct) := ⟨rfl, rfl, rfl, by decide +kernel, rfl, by decide +kernel, by decide +kernel⟩
abbrev N__law_mix : List Str := ["_law_state", "_law_count", "_law_cell", "_law_one"]
theorem sc__law_mix : FnScope N__law_mix ["_law_state"] (defScope s__law_mix) := ⟨rfl, rfl, rfl, by decide +kernel, rfl, by decide +kernel, by decide +kernel⟩
abbrev N__law_whole : List Str := ["_law_thing"]
theorem sc__law_whole : FnScope N__law_whole ["_law_thing"] (defScope zb5) := ⟨rfl, rfl, rfl, by decide +kernel, rfl, by decide +kernel, by decide +kernel⟩
abbrev zcw : List Str := ["_law_found", "_law_want", "_law_one", "_law_other"]
theorem sc__law_same : FnScope zcw ["_law_found", "_law_want"] (defScope za4) := ⟨rfl, rfl, rfl, by decide +kernel, rfl, by decide +kernel, by decide +kernel⟩
abbrev N__law_lowest : List Str := ["_law_top", "_law_bottom", "_law_one", "_law_other"]
theorem sc__law_lowest : FnScope N__law_lowest ["_law_top", "_law_bottom"] (defScope zbs) := ⟨rfl, rfl, rfl, by decide +kernel, rfl, by decide +kernel, by decide +kernel⟩
abbrev N__law_plus : List Str := ["_law_one", "_law_other"]
theorem sc__law_plus : FnScope N__law_plus ["_law_one", "_law_other"] (defScope zcr) := ⟨rfl, rfl, rfl, by decide +kernel, rfl, by decide +kernel, by decide +kernel⟩
abbrev N__law_times : List Str := ["_law_one", "_law_other"]
theorem sc__law_times : FnScope N__law_times ["_law_one", "_law_other"] (defScope zb6) := ⟨rfl, rfl, rfl, by decide +kernel, rfl, by decide +kernel, by decide +kernel⟩
abbrev N__law_led : List Str := ["_law_move", "_law_value"]
theorem sc__law_led : FnScope N__law_led ["_law_move", "_law_value"] (defScope s__law_led) := ⟨rfl, rfl, rfl, by decide +kernel, rfl, by decide +kernel, by decide +kernel⟩
abbrev N__law_then : List Str := ["_law_one", "_law_other"]
theorem sc__law_then : FnScope N__law_then ["_law_one", "_law_other"] (defScope zcq) := ⟨rfl, rfl, rfl, by decide +kernel, rfl, by decide +kernel, by decide +kernel⟩
abbrev N__law_back : List Str := ["_law_move", "_law_turned"]
theorem sc__law_back : FnScope N__law_back ["_law_move"] (defScope zcu) := ⟨rfl, rfl, rfl, by decide +kernel, rfl, by decide +kernel, by decide +kernel⟩
abbrev N__law_names : List Str := ["_law_state", "_law_many", "_law_letters", "_law_found", "_law_k", "_law_name", "_law_j"]
theorem sc__law_names : FnScope N__law_names ["_law_state", "_law_many"] (defScope zbb) := ⟨rfl, rfl, rfl, by decide +kernel, rfl, by decide +kernel, by decide +kernel⟩
abbrev N__law_world : List Str := ["_law_state", "_law_scales", "_law_size", "_law_found", "_law_scale", "_law_sign", "_law_a", "_law_b"]
theorem sc__law_world : FnScope N__law_world ["_law_state", "_law_scales"] (defScope zb4) := ⟨rfl, rfl, rfl, by decide +kernel, rfl, by decide +kernel, by decide +kernel⟩
abbrev N__law_tellings : List Str := ["_law_state", "_law_scales", "_law_many", "_law_worlds", "_law_size", "_law_found", "_law_name", "_law_start_here", "_law_end", "_law_way", "_law_world_here", "_law_a", "_law_b"]
theorem sc__law_tellings : FnScope N__law_tellings ["_law_state", "_law_scales", "_law_many"] (defScope za7) := ⟨rfl, rfl, rfl, by decide +kernel, rfl, by decide +kernel, by decide +kernel⟩
abbrev N__law_apart : List Str := ["_law_tellings_here", "_law_start_here", "_law_end", "_law_refused", "_law_e"]
theorem sc__law_apart : FnScope N__law_apart ["_law_tellings_here", "_law_start_here", "_law_end"] (defScope zb7) := ⟨rfl, rfl, rfl, by decide +kernel, rfl, by decide +kernel, by decide +kernel⟩
abbrev N__law_heir : List Str := ["_law_tellings_here", "_law_name", "_law_found", "_law_heir_here"]
theorem sc__law_heir : FnScope N__law_heir ["_law_tellings_here", "_law_name"] (defScope zcs) := ⟨rfl, rfl, rfl, by decide +kernel, rfl, by decide +kernel, by decide +kernel⟩
abbrev N_law : List Str := ["_law_script", "_law_state", "_law_scales", "_law_tellings_here", "_law_name", "_law_start_here", "_law_end", "_law_move", "_law_trust", "_law_rest", "_law_ties", "_law_heir_here", "_law_words", "_law_owed", "_law_telling", "_law_row", "_law_other"]
theorem sc_law : FnScope N_law ["_law_script"] (defScope s_law) := ⟨rfl, rfl, rfl, by decide +kernel, rfl, by decide +kernel, by decide +kernel⟩
abbrev N__law_alone : List Str := ["_law_e", "_law_found"]
theorem sc__law_alone : FnScope N__law_alone ["_law_e"] (defScope zb8) := ⟨rfl, rfl, rfl, by decide +kernel, rfl, by decide +kernel, by decide +kernel⟩
theorem sc_NoBottom_init : FnScope ["self", "top"] ["self", "top"] (defScope zbl) := ⟨rfl, rfl, rfl, by decide +kernel, rfl, by decide +kernel, by decide +kernel⟩
theorem in_NoBottom {P : Program} {w : World} {K : PySem.W.Frag} {mg : Str → Option Value} {base : Heap} {fa : Addr} (B : BkI K mg "BookError") : ∀ (cdv : Value) (A : Around) (outer : List PySem.Env) (s : Shared) (H : Hp) (E : XK), PSs (cxOf (L2N.CX P w) P w K mg base ["self", "top"] "NoBottom.__init__" (defScope zbl) fa cdv A outer s H E) (defBody zbl) (tSeq (tI0 K "no bottom") (tSeq (tOst K "top" (tVar 0) (tVar 1)) tNext)) :=
  fun _ _ _ _ _ _ => pss_cons (ps_expr (pe_binit B (pa_cons (pe_var (i := 0) rfl (by first | exact Or.inl rfl | exact Or.inr (Or.inl rfl) | exact Or.inr (Or.inr rfl))) (pa_cons pe_str pa_nil)))) (pss_cons (ps_ost (pe_var (i := 0) rfl (by first | exact Or.inl rfl | exact Or.inr (Or.inl rfl) | exact Or.inr (Or.inr rfl))) (pe_var (i := 1) rfl (by first | exact Or.inl rfl | exact Or.inr (Or.inl rfl) | exact Or.inr (Or.inr rfl)))) pss_nil)
theorem sc_NoTelling_init : FnScope ["self", "name"] ["self", "name"] (defScope za9) := ⟨rfl, rfl, rfl, by decide +kernel, rfl, by decide +kernel, by decide +kernel⟩
theorem in_NoTelling {P : Program} {w : World} {K : PySem.W.Frag} {mg : Str → Option Value} {base : Heap} {fa : Addr} (B : BkI K mg "BookError") : ∀ (cdv : Value) (A : Around) (outer : List PySem.Env) (s : Shared) (H : Hp) (E : XK), PSs (cxOf (L2N.CX P w) P w K mg base ["self", "name"] "NoTelling.__init__" (defScope za9) fa cdv A outer s H E) (defBody za9) (tSeq (tI0 K "no telling") (tSeq (tOst K "name" (tVar 0) (tVar 1)) tNext)) :=
  fun _ _ _ _ _ _ => pss_cons (ps_expr (pe_binit B (pa_cons (pe_var (i := 0) rfl (by first | exact Or.inl rfl | exact Or.inr (Or.inl rfl) | exact Or.inr (Or.inr rfl))) (pa_cons pe_str pa_nil)))) (pss_cons (ps_ost (pe_var (i := 0) rfl (by first | exact Or.inl rfl | exact Or.inr (Or.inl rfl) | exact Or.inr (Or.inr rfl))) (pe_var (i := 1) rfl (by first | exact Or.inl rfl | exact Or.inr (Or.inl rfl) | exact Or.inr (Or.inr rfl)))) pss_nil)
theorem sc_NoTie_init : FnScope ["self", "name"] ["self", "name"] (defScope zc2) := ⟨rfl, rfl, rfl, by decide +kernel, rfl, by decide +kernel, by decide +kernel⟩
theorem in_NoTie {P : Program} {w : World} {K : PySem.W.Frag} {mg : Str → Option Value} {base : Heap} {fa : Addr} (B : BkI K mg "BookError") : ∀ (cdv : Value) (A : Around) (outer : List PySem.Env) (s : Shared) (H : Hp) (E : XK), PSs (cxOf (L2N.CX P w) P w K mg base ["self", "name"] "NoTie.__init__" (defScope zc2) fa cdv A outer s H E) (defBody zc2) (tSeq (tI0 K "no tie") (tSeq (tOst K "name" (tVar 0) (tVar 1)) tNext)) :=
  fun _ _ _ _ _ _ => pss_cons (ps_expr (pe_binit B (pa_cons (pe_var (i := 0) rfl (by first | exact Or.inl rfl | exact Or.inr (Or.inl rfl) | exact Or.inr (Or.inr rfl))) (pa_cons pe_str pa_nil)))) (pss_cons (ps_ost (pe_var (i := 0) rfl (by first | exact Or.inl rfl | exact Or.inr (Or.inl rfl) | exact Or.inr (Or.inr rfl))) (pe_var (i := 1) rfl (by first | exact Or.inl rfl | exact Or.inr (Or.inl rfl) | exact Or.inr (Or.inr rfl)))) pss_nil)
theorem sc_NotJoined_init : FnScope ["self", "start", "end"] ["self", "start", "end"] (defScope za8) := ⟨rfl, rfl, rfl, by decide +kernel, rfl, by decide +kernel, by decide +kernel⟩
theorem in_NotJoined {P : Program} {w : World} {K : PySem.W.Frag} {mg : Str → Option Value} {base : Heap} {fa : Addr} (B : BkI K mg "BookError") : ∀ (cdv : Value) (A : Around) (outer : List PySem.Env) (s : Shared) (H : Hp) (E : XK), PSs (cxOf (L2N.CX P w) P w K mg base ["self", "start", "end"] "NotJoined.__init__" (defScope za8) fa cdv A outer s H E) (defBody za8) (tSeq (tI0 K "not joined") (tSeq (tOst K "start" (tVar 0) (tVar 1)) (tSeq (tOst K "end" (tVar 0) (tVar 2)) tNext))) :=
  fun _ _ _ _ _ _ => pss_cons (ps_expr (pe_binit B (pa_cons (pe_var (i := 0) rfl (by first | exact Or.inl rfl | exact Or.inr (Or.inl rfl) | exact Or.inr (Or.inr rfl))) (pa_cons pe_str pa_nil)))) (pss_cons (ps_ost (pe_var (i := 0) rfl (by first | exact Or.inl rfl | exact Or.inr (Or.inl rfl) | exact Or.inr (Or.inr rfl))) (pe_var (i := 1) rfl (by first | exact Or.inl rfl | exact Or.inr (Or.inl rfl) | exact Or.inr (Or.inr rfl)))) (pss_cons (ps_ost (pe_var (i := 0) rfl (by first | exact Or.inl rfl | exact Or.inr (Or.inl rfl) | exact Or.inr (Or.inr rfl))) (pe_var (i := 2) rfl (by first | exact Or.inl rfl | exact Or.inr (Or.inl rfl) | exact Or.inr (Or.inr rfl)))) pss_nil))
structure Fcts (K : PySem.W.Frag) (mg : Str → Option Value) : Prop where
  fr_ValueError : mg "ValueError" = none
  fr_abs : mg "abs" = none
  fr_all : mg "all" = none
  fr_bool : mg "bool" = none
  fr_int : mg "int" = none
  fr_isinstance : mg "isinstance" = none
  fr_len : mg "len" = none
  fr_list : mg "list" = none
  fr_min : mg "min" = none
  fr_range : mg "range" = none
  fr_sorted : mg "sorted" = none
  fr_str : mg "str" = none
  fr_tuple : mg "tuple" = none
  fr_zip : mg "zip" = none
  co_NOUGHT : ConI K mg "NOUGHT" (.tup [(.int 0), (.int 1)])
  co_SAME : ConI K mg "SAME" (.tup [(.tup [(.int 1), (.int 1)]), (.tup [(.int 0), (.int 1)])])
  hd_NoTie : HdI K mg "NoTie" ["NoBottom", "NoTelling", "NoTie", "NotJoined"]
  xf_NotJoined : XfC K (He.ga K "NotJoined")
  nf_NotJoined : ∀ f : Str, f ∈ (["start", "end"] : List Str) → PySem.W.findIn K (.ref (He.ga K "NotJoined")) f = some none
  cl_BadName : mg "BadName" = some (.ref (He.ga K "BadName"))
  cl_BadWeight : mg "BadWeight" = some (.ref (He.ga K "BadWeight"))
  cl_BookError : mg "BookError" = some (.ref (He.ga K "BookError"))
  cl_Clash : mg "Clash" = some (.ref (He.ga K "Clash"))
  cl_Far : mg "Far" = some (.ref (He.ga K "Far"))
  cl_Flat : mg "Flat" = some (.ref (He.ga K "Flat"))
  cl_Full : mg "Full" = some (.ref (He.ga K "Full"))
  cl_InUse : mg "InUse" = some (.ref (He.ga K "InUse"))
  cl_NoBook : mg "NoBook" = some (.ref (He.ga K "NoBook"))
  cl_NoBottom : mg "NoBottom" = some (.ref (He.ga K "NoBottom"))
  cl_NoLevel : mg "NoLevel" = some (.ref (He.ga K "NoLevel"))
  cl_NoLine : mg "NoLine" = some (.ref (He.ga K "NoLine"))
  cl_NoSuch : mg "NoSuch" = some (.ref (He.ga K "NoSuch"))
  cl_NoTelling : mg "NoTelling" = some (.ref (He.ga K "NoTelling"))
  cl_NoText : mg "NoText" = some (.ref (He.ga K "NoText"))
  cl_NoTie : mg "NoTie" = some (.ref (He.ga K "NoTie"))
  cl_NotJoined : mg "NotJoined" = some (.ref (He.ga K "NotJoined"))
  cl_NotSheer : mg "NotSheer" = some (.ref (He.ga K "NotSheer"))
  cl_NotVouched : mg "NotVouched" = some (.ref (He.ga K "NotVouched"))
  cl_NothingDone : mg "NothingDone" = some (.ref (He.ga K "NothingDone"))
  cl_SameScale : mg "SameScale" = some (.ref (He.ga K "SameScale"))
  cl_Taken : mg "Taken" = some (.ref (He.ga K "Taken"))
  cl_Vouched : mg "Vouched" = some (.ref (He.ga K "Vouched"))
  hj_NotJoined : HdJ K mg "NotJoined" ["NoBottom", "NoTelling", "NoTie", "NotJoined"]
  xk : XkI K
structure Fns (P : Program) (w : World) (K : PySem.W.Frag) (mg : Str → Option Value) (base : Heap) (k : Nat) : Prop where
  g_common : FnI P w K mg base (call tbl k) k "common" 0 2 []
  g_fraction_of : FnI P w K mg base (call tbl k) k "fraction_of" 15 2 []
  g_plus_of : FnI P w K mg base (call tbl k) k "plus_of" 16 2 []
  g_less_of : FnI P w K mg base (call tbl k) k "less_of" 17 2 []
  g_times_of : FnI P w K mg base (call tbl k) k "times_of" 18 2 []
  g_over_of : FnI P w K mg base (call tbl k) k "over_of" 19 2 []
  g_stretch_by : FnI P w K mg base (call tbl k) k "stretch_by" 20 2 []
  g_read_by : FnI P w K mg base (call tbl k) k "read_by" 21 2 []
  g_move_then : FnI P w K mg base (call tbl k) k "move_then" 22 2 []
  g_move_back : FnI P w K mg base (call tbl k) k "move_back" 23 1 []
  g_in_order : FnI P w K mg base (call tbl k) k "in_order" 32 1 []
  g_order_of : FnI P w K mg base (call tbl k) k "order_of" 33 1 []
  g_named : FnI P w K mg base (call tbl k) k "named" 51 2 []
  g_tie_rows : FnI P w K mg base (call tbl k) k "tie_rows" 39 1 []
  g_ties_of : FnI P w K mg base (call tbl k) k "ties_of" 56 1 []
  g_steps_from : FnI P w K mg base (call tbl k) k "steps_from" 40 2 []
  g_roads_among : FnI P w K mg base (call tbl k) k "roads_among" 41 2 []
  g_road_among : FnI P w K mg base (call tbl k) k "road_among" 42 3 []
  g_reach_among : FnI P w K mg base (call tbl k) k "reach_among" 89 2 []
  g_road_of : FnI P w K mg base (call tbl k) k "road_of" 43 3 []
  g_chain_move : FnI P w K mg base (call tbl k) k "chain_move" 44 2 []
  g_heir_of : FnI P w K mg base (call tbl k) k "heir_of" 90 2 []
  g_bars_of : FnI P w K mg base (call tbl k) k "bars_of" 46 1 []
  g_words_of : FnI P w K mg base (call tbl k) k "words_of" 47 1 []
  g__law_start : FnI P w K mg base (call tbl k) k "_law_start" 4 1 []
  g__law_draw : FnI P w K mg base (call tbl k) k "_law_draw" 6 2 []
  g__law_mix : FnI P w K mg base (call tbl k) k "_law_mix" 5 1 []
  g__law_whole : FnI P w K mg base (call tbl k) k "_law_whole" 91 1 []
  g__law_same : FnI P w K mg base (call tbl k) k "_law_same" 7 2 []
  g__law_lowest : FnI P w K mg base (call tbl k) k "_law_lowest" 9 2 []
  g__law_plus : FnI P w K mg base (call tbl k) k "_law_plus" 24 2 []
  g__law_times : FnI P w K mg base (call tbl k) k "_law_times" 25 2 []
  g__law_led : FnI P w K mg base (call tbl k) k "_law_led" 26 2 []
  g__law_then : FnI P w K mg base (call tbl k) k "_law_then" 27 2 []
  g__law_back : FnI P w K mg base (call tbl k) k "_law_back" 28 1 []
  g__law_names : FnI P w K mg base (call tbl k) k "_law_names" 34 2 []
  g__law_world : FnI P w K mg base (call tbl k) k "_law_world" 35 2 []
  g__law_tellings : FnI P w K mg base (call tbl k) k "_law_tellings" 36 3 []
  g__law_apart : FnI P w K mg base (call tbl k) k "_law_apart" 378 3 []
  g__law_heir : FnI P w K mg base (call tbl k) k "_law_heir" 136 2 []
  g_law : FnI P w K mg base (call tbl k) k "law" 379 1 []
  h__law_alone : FnIH P w K mg base (call tbl k) k "_law_alone" 77 1
  h__law_same : FnIH P w K mg base (call tbl k) k "_law_same" 377 2
  x_NoBottom : XcI P w K mg base "NoBottom" ["top"]
  x_NoTelling : XcI P w K mg base "NoTelling" ["name"]
  x_NoTie : XcI P w K mg base "NoTie" ["name"]
  x_NotJoined : XcI P w K mg base "NotJoined" ["start", "end"]
section
variable {P : Program} {w : World} {K : PySem.W.Frag} {mg : Str → Option Value} {base : Heap} {k : Nat} {f : Addr} {cdv : Value} {A : Around} {outer : List PySem.Env} {s : Shared} {H : Hp} {E : XK}
theorem jb_common (T : Fcts K mg) (G : Fns P w K mg base k) (c : Cq (cxOf (L2N.CX P w) P w K mg base N_common "common" (defScope s_common) f cdv A outer s H E) (fun c d _ H => E c d H) k) :
    JSs (cxOf (L2N.CX P w) P w K mg base N_common "common" (defScope s_common) f cdv A outer s H E) (fun c d _ H => E c d H) (call tbl k) (defBody s_common) F_common.body :=
  (zac (js_par (i := 0) (j := 1) c.calm c.nd (zaa (za0 .abs (fun _ => bi_abs) T.fr_abs (by decide +kernel) (zaa (zab 0) zae)) (zaa (za0 .abs (fun _ => bi_abs) T.fr_abs (by decide +kernel) (zaa (zab 1) zae)) zae)))
  (zac (js_while0 c.po (za1 c.hr.u66 (zab 1) zaf) (zac (js_par (i := 0) (j := 1) c.calm c.nd (zaa (zab 1) (zaa (zao (zab 0) (zab 1)) zae)))
  zah))
  (zac (zat (zab 0))
  zah)))
theorem jb_fraction_of (T : Fcts K mg) (G : Fns P w K mg base k) (c : Cq (cxOf (L2N.CX P w) P w K mg base N_fraction_of "fraction_of" (defScope zbr) f cdv A outer s H E) (fun c d _ H => E c d H) k) :
    JSs (cxOf (L2N.CX P w) P w K mg base N_fraction_of "fraction_of" (defScope zbr) f cdv A outer s H E) (fun c d _ H => E c d H) (call tbl k) (defBody zbr) F_fraction_of.body :=
  (zac (zcj (za1 c.hr.u66 (zab 1) zaf) (zac (js_raise G.x_NoBottom c.calm c.tk (c.hr.mono (by omega)) (zaa (zab 0) zae))
  zah) zah)
  (zac (zap (i := 2) c.nd (zak G.g_common c.calm c.hr c.tk (zaa (zab 0) (zaa (zab 1) zae))))
  (zac (zcj (za1 c.hr.u66 (zab 1) zaf) (zac (zap (i := 2) c.nd (je_neg (zab 2)))
  zah) zah)
  (zac (zat (zca (zaa (zao (zab 0) (zab 2)) (zaa (zao (zab 1) (zab 2)) zae))))
  zah))))
theorem jb_plus_of (T : Fcts K mg) (G : Fns P w K mg base k) (c : Cq (cxOf (L2N.CX P w) P w K mg base N_plus_of "plus_of" (defScope s_plus_of) f cdv A outer s H E) (fun c d _ H => E c d H) k) :
    JSs (cxOf (L2N.CX P w) P w K mg base N_plus_of "plus_of" (defScope s_plus_of) f cdv A outer s H E) (fun c d _ H => E c d H) (call tbl k) (defBody s_plus_of) F_plus_of.body :=
  (zac (zat (zak G.g_fraction_of c.calm c.hr c.tk (zaa (zao (zao (zal c.hr.u66 (zab 0) zaf) (zal c.hr.u66 (zab 1) zaf)) (zao (zal c.hr.u66 (zab 1) zaf) (zal c.hr.u66 (zab 0) zaf))) (zaa (zao (zal c.hr.u66 (zab 0) zaf) (zal c.hr.u66 (zab 1) zaf)) zae))))
  zah)
theorem jb_less_of (T : Fcts K mg) (G : Fns P w K mg base k) (c : Cq (cxOf (L2N.CX P w) P w K mg base N_less_of "less_of" (defScope s_less_of) f cdv A outer s H E) (fun c d _ H => E c d H) k) :
    JSs (cxOf (L2N.CX P w) P w K mg base N_less_of "less_of" (defScope s_less_of) f cdv A outer s H E) (fun c d _ H => E c d H) (call tbl k) (defBody s_less_of) F_less_of.body :=
  (zac (zat (zak G.g_fraction_of c.calm c.hr c.tk (zaa (zao (zao (zal c.hr.u66 (zab 0) zaf) (zal c.hr.u66 (zab 1) zaf)) (zao (zal c.hr.u66 (zab 1) zaf) (zal c.hr.u66 (zab 0) zaf))) (zaa (zao (zal c.hr.u66 (zab 0) zaf) (zal c.hr.u66 (zab 1) zaf)) zae))))
  zah)
theorem jb_times_of (T : Fcts K mg) (G : Fns P w K mg base k) (c : Cq (cxOf (L2N.CX P w) P w K mg base N_times_of "times_of" (defScope s_times_of) f cdv A outer s H E) (fun c d _ H => E c d H) k) :
    JSs (cxOf (L2N.CX P w) P w K mg base N_times_of "times_of" (defScope s_times_of) f cdv A outer s H E) (fun c d _ H => E c d H) (call tbl k) (defBody s_times_of) F_times_of.body :=
  (zac (zat (zak G.g_fraction_of c.calm c.hr c.tk (zaa (zao (zal c.hr.u66 (zab 0) zaf) (zal c.hr.u66 (zab 1) zaf)) (zaa (zao (zal c.hr.u66 (zab 0) zaf) (zal c.hr.u66 (zab 1) zaf)) zae))))
  zah)
theorem jb_over_of (T : Fcts K mg) (G : Fns P w K mg base k) (c : Cq (cxOf (L2N.CX P w) P w K mg base N_over_of "over_of" (defScope s_over_of) f cdv A outer s H E) (fun c d _ H => E c d H) k) :
    JSs (cxOf (L2N.CX P w) P w K mg base N_over_of "over_of" (defScope s_over_of) f cdv A outer s H E) (fun c d _ H => E c d H) (call tbl k) (defBody s_over_of) F_over_of.body :=
  (zac (zcj (za1 c.hr.u66 (zal c.hr.u66 (zab 1) zaf) zaf) (zac (js_raise G.x_NoBottom c.calm c.tk (c.hr.mono (by omega)) (zaa (zal c.hr.u66 (zab 0) zaf) zae))
  zah) zah)
  (zac (zat (zak G.g_fraction_of c.calm c.hr c.tk (zaa (zao (zal c.hr.u66 (zab 0) zaf) (zal c.hr.u66 (zab 1) zaf)) (zaa (zao (zal c.hr.u66 (zab 0) zaf) (zal c.hr.u66 (zab 1) zaf)) zae))))
  zah))
theorem jb_stretch_by (T : Fcts K mg) (G : Fns P w K mg base k) (c : Cq (cxOf (L2N.CX P w) P w K mg base N_stretch_by "stretch_by" (defScope zb1) f cdv A outer s H E) (fun c d _ H => E c d H) k) :
    JSs (cxOf (L2N.CX P w) P w K mg base N_stretch_by "stretch_by" (defScope zb1) f cdv A outer s H E) (fun c d _ H => E c d H) (call tbl k) (defBody zb1) F_stretch_by.body :=
  (zac (zat (zak G.g_times_of c.calm c.hr c.tk (zaa (zal c.hr.u66 (zab 0) zaf) (zaa (zab 1) zae))))
  zah)
theorem jb_read_by (T : Fcts K mg) (G : Fns P w K mg base k) (c : Cq (cxOf (L2N.CX P w) P w K mg base N_read_by "read_by" (defScope s_read_by) f cdv A outer s H E) (fun c d _ H => E c d H) k) :
    JSs (cxOf (L2N.CX P w) P w K mg base N_read_by "read_by" (defScope s_read_by) f cdv A outer s H E) (fun c d _ H => E c d H) (call tbl k) (defBody s_read_by) F_read_by.body :=
  (zac (zat (zak G.g_plus_of c.calm c.hr c.tk (zaa (zak G.g_stretch_by c.calm c.hr c.tk (zaa (zab 0) (zaa (zab 1) zae))) (zaa (zal c.hr.u66 (zab 0) zaf) zae))))
  zah)
theorem jb_move_then (T : Fcts K mg) (G : Fns P w K mg base k) (c : Cq (cxOf (L2N.CX P w) P w K mg base N_move_then "move_then" (defScope zco) f cdv A outer s H E) (fun c d _ H => E c d H) k) :
    JSs (cxOf (L2N.CX P w) P w K mg base N_move_then "move_then" (defScope zco) f cdv A outer s H E) (fun c d _ H => E c d H) (call tbl k) (defBody zco) F_move_then.body :=
  (zac (zat (zca (zaa (zak G.g_times_of c.calm c.hr c.tk (zaa (zal c.hr.u66 (zab 1) zaf) (zaa (zal c.hr.u66 (zab 0) zaf) zae))) (zaa (zak G.g_read_by c.calm c.hr c.tk (zaa (zab 1) (zaa (zal c.hr.u66 (zab 0) zaf) zae))) zae))))
  zah)
theorem jb_move_back (T : Fcts K mg) (G : Fns P w K mg base k) (c : Cq (cxOf (L2N.CX P w) P w K mg base N_move_back "move_back" (defScope zcp) f cdv A outer s H E) (fun c d _ H => E c d H) k) :
    JSs (cxOf (L2N.CX P w) P w K mg base N_move_back "move_back" (defScope zcp) f cdv A outer s H E) (fun c d _ H => E c d H) (call tbl k) (defBody zcp) F_move_back.body :=
  (zac (js_tup (is := [1, 2]) (zab 0) (tg_tup' c.calm (za2 (i := 1) c.nd (za2 (i := 2) c.nd tgs_nil))))
  (zac (zat (zca (zaa (zak G.g_over_of c.calm c.hr c.tk (zaa (zca (zaa zaf (zaa zaf zae))) (zaa (zab 1) zae))) (zaa (zak G.g_over_of c.calm c.hr c.tk (zaa (zak G.g_less_of c.calm c.hr c.tk (zaa (je_con T.co_NOUGHT) (zaa (zab 2) zae))) (zaa (zab 1) zae))) zae))))
  zah))
theorem jb_in_order (T : Fcts K mg) (G : Fns P w K mg base k) {cc PP : Addr} (tb : TbI (cxOf (L2N.CX P w) P w K mg base N_in_order "in_order" (defScope zc1) f cdv A outer s H E) cc PP) (c : Cq (cxOf (L2N.CX P w) P w K mg base N_in_order "in_order" (defScope zc1) f cdv A outer s H E) (fun c d _ H => E c d H) k) :
    JSs (cxOf (L2N.CX P w) P w K mg base N_in_order "in_order" (defScope zc1) f cdv A outer s H E) (fun c d _ H => E c d H) (call tbl k) (defBody zc1) F_in_order.body :=
  (zac (zat (je_srtNeg (q := "telling") tb c.calm c.hr T.fr_sorted (zab 0) ⟨rfl, rfl, rfl, by decide +kernel, rfl, by decide +kernel, by decide +kernel⟩ rfl (by decide) (by decide) (fun _ _ _ _ _ => rfl)))
  zah)
theorem jb_order_of (T : Fcts K mg) (G : Fns P w K mg base k) (c : Cq (cxOf (L2N.CX P w) P w K mg base N_order_of "order_of" (defScope zc0) f cdv A outer s H E) (fun c d _ H => E c d H) k) :
    JSs (cxOf (L2N.CX P w) P w K mg base N_order_of "order_of" (defScope zc0) f cdv A outer s H E) (fun c d _ H => E c d H) (call tbl k) (defBody zc0) F_order_of.body :=
  (zac (zat (je_comp (own := [("telling", 1)]) (is := [1]) (one := .one) c.calm c.nd (zc5 (zak G.g_in_order c.calm c.hr c.tk (zaa (zab 0) zae))) (blkOk_by (own := [("telling", 1)]) (N := N_order_of) (sc := defScope zc0) (by decide +kernel)) (fun sB HB CB clB fpB => (zcg (c.blk sB HB _ _ fpB).nd)) (fun sB HB CB clB fpB => cd_none) (fun sB HB CB clB fpB => (zal (c.blk sB HB _ _ fpB).hr.u66 (zab 1) zaf))))
  zah)
theorem jb_named (T : Fcts K mg) (G : Fns P w K mg base k) (c : Cq (cxOf (L2N.CX P w) P w K mg base N_named "named" (defScope s_named) f cdv A outer s H E) (fun c d _ H => E c d H) k) :
    JSs (cxOf (L2N.CX P w) P w K mg base N_named "named" (defScope s_named) f cdv A outer s H E) (fun c d _ H => E c d H) (call tbl k) (defBody s_named) F_named.body :=
  (zac (js_for0 (is := [2]) (one := .one) c.po c.calm (zc5 (zab 0)) (zcg c.nd) (zac (zcj (za1 c.hr.u66 (zal c.hr.u66 (zab 2) zaf) (zab 1)) (zac (zat (zab 2))
  zah) zah)
  zah))
  (zac (js_raise G.x_NoTelling c.calm c.tk (c.hr.mono (by omega)) (zaa (zab 1) zae))
  zah))
theorem jb_tie_rows (T : Fcts K mg) (G : Fns P w K mg base k) (c : Cq (cxOf (L2N.CX P w) P w K mg base N_tie_rows "tie_rows" (defScope zcz) f cdv A outer s H E) (fun c d _ H => E c d H) k) :
    JSs (cxOf (L2N.CX P w) P w K mg base N_tie_rows "tie_rows" (defScope zcz) f cdv A outer s H E) (fun c d _ H => E c d H) (call tbl k) (defBody zcz) F_tie_rows.body :=
  (zac (zap (i := 1) c.nd je_dct0)
  (zac (zap (i := 2) c.nd (zck zae))
  (zac (js_for0 (is := [3]) (one := .one) c.po c.calm (zc5 (zak G.g_in_order c.calm c.hr c.tk (zaa (zab 0) zae))) (zcg c.nd) (zac (zap (i := 4) c.nd (je_mth .setd PySem.F.plainAttrs_dict PySem.F.slot_dict_setdefault PySem.F.type_dict_setdefault (fun _ => mt_setd_ok) (zab 1) (zaa (zal c.hr.u66 (zab 3) zaf) (zaa (zal c.hr.u66 (zab 3) zaf) zae))))
  (zac (zap (i := 5) c.nd (je_mth .setd PySem.F.plainAttrs_dict PySem.F.slot_dict_setdefault PySem.F.type_dict_setdefault (fun _ => mt_setd_ok) (zab 1) (zaa (zal c.hr.u66 (zab 3) zaf) (zaa (zal c.hr.u66 (zab 3) zaf) zae))))
  (zac (zcj (za1 c.hr.u66 (zab 4) (zab 5)) (zac (js_setM (i := 1) (own := [("scale", 6), ("mark", 7)]) (d := 1) (nr := 4) (fr := 5) (is := 6) (im := 7) c.hr.u66 c.calm c.nd (pr_var 1) (blkOk_by (own := [("scale", 6), ("mark", 7)]) (N := N_tie_rows) (sc := defScope zcz) (by decide +kernel)) (fun sB HB CB clB fpB => (tg_tup (c.blk sB HB _ _ fpB).calm (za2 (i := 6) (c.blk sB HB _ _ fpB).nd (za2 (i := 7) (c.blk sB HB _ _ fpB).nd tgs_nil)))) (fun sB HB CB clB fpB => pr_var 6) (fun sB HB CB clB fpB => pr_var 7) (fun sB HB CB clB fpB => pr_var 5) (fun sB HB CB clB fpB => pr_var 4) (fun sB HB CB clB fpB => pr_var 7))
  (zac (js_expr (je_mth .append PySem.F.plainAttrs_list PySem.F.slot_list_append PySem.F.type_list_append (fun _ => zb9) (zab 2) (zaa (zab 3) zae)))
  zah)) zah)
  zah))))
  (zac (zat (zab 2))
  zah))))
theorem jb_ties_of (T : Fcts K mg) (G : Fns P w K mg base k) (c : Cq (cxOf (L2N.CX P w) P w K mg base N_ties_of "ties_of" (defScope s_ties_of) f cdv A outer s H E) (fun c d _ H => E c d H) k) :
    JSs (cxOf (L2N.CX P w) P w K mg base N_ties_of "ties_of" (defScope s_ties_of) f cdv A outer s H E) (fun c d _ H => E c d H) (call tbl k) (defBody s_ties_of) F_ties_of.body :=
  (zac (zat (je_comp (own := [("telling", 1)]) (is := [1]) (one := .one) c.calm c.nd (zc5 (zak G.g_tie_rows c.calm c.hr c.tk (zaa (zab 0) zae))) (blkOk_by (own := [("telling", 1)]) (N := N_ties_of) (sc := defScope s_ties_of) (by decide +kernel)) (fun sB HB CB clB fpB => (zcg (c.blk sB HB _ _ fpB).nd)) (fun sB HB CB clB fpB => cd_none) (fun sB HB CB clB fpB => (zal (c.blk sB HB _ _ fpB).hr.u66 (zab 1) zaf))))
  zah)
theorem jb_steps_from (T : Fcts K mg) (G : Fns P w K mg base k) (c : Cq (cxOf (L2N.CX P w) P w K mg base N_steps_from "steps_from" (defScope zb2) f cdv A outer s H E) (fun c d _ H => E c d H) k) :
    JSs (cxOf (L2N.CX P w) P w K mg base N_steps_from "steps_from" (defScope zb2) f cdv A outer s H E) (fun c d _ H => E c d H) (call tbl k) (defBody zb2) F_steps_from.body :=
  (zac (zap (i := 2) c.nd (zck zae))
  (zac (js_for0 (is := [3, 4, 5, 6]) (one := .star) c.po c.calm (zc5 (zab 0)) (tg_star 3 c.calm (za2 (i := 3) c.nd (za2 (i := 4) c.nd (za2 (i := 5) c.nd (tgs_star (i := 6) c.nd))))) (zac (zcj (za1 c.hr.u66 (zab 4) (zab 1)) (zac (js_expr (je_mth .append PySem.F.plainAttrs_list PySem.F.slot_list_append PySem.F.type_list_append (fun _ => zb9) (zab 2) (zaa (zca (zaa (zca (zaa (zab 3) (zaa je_bl zae))) (zaa (zab 5) zae))) zae)))
  zah) zah)
  (zac (zcj (za1 c.hr.u66 (zab 5) (zab 1)) (zac (js_expr (je_mth .append PySem.F.plainAttrs_list PySem.F.slot_list_append PySem.F.type_list_append (fun _ => zb9) (zab 2) (zaa (zca (zaa (zca (zaa (zab 3) (zaa je_bl zae))) (zaa (zab 4) zae))) zae)))
  zah) zah)
  zah)))
  (zac (zat (zab 2))
  zah)))
theorem jb_roads_among (T : Fcts K mg) (G : Fns P w K mg base k) (c : Cq (cxOf (L2N.CX P w) P w K mg base N_roads_among "roads_among" (defScope zbp) f cdv A outer s H E) (fun c d _ H => E c d H) k) :
    JSs (cxOf (L2N.CX P w) P w K mg base N_roads_among "roads_among" (defScope zbp) f cdv A outer s H E) (fun c d _ H => E c d H) (call tbl k) (defBody zbp) F_roads_among.body :=
  (zac (zap (i := 2) c.nd (je_dct1 (zab 1) (zck zae)))
  (zac (zap (i := 3) c.nd (zck (zaa (zab 1) zae)))
  (zac (js_while0 c.po (za1 c.hr.u66 (za0 .len (fun _ => bi_len) T.fr_len (by decide +kernel) (zaa (zab 3) zae)) zaf) (zac (zap (i := 4) c.nd (je_mth .popAt PySem.F.plainAttrs_list PySem.F.slot_list_pop PySem.F.type_list_pop (fun _ => mt_popAt_ok) (zab 3) (zaa zaf zae)))
  (zac (js_for0 (is := [5, 6]) (one := .tup) c.po c.calm (zc5 (zak G.g_steps_from c.calm c.hr c.tk (zaa (zab 0) (zaa (zab 4) zae)))) (tg_tup c.calm (za2 (i := 5) c.nd (za2 (i := 6) c.nd tgs_nil))) (zac (zcj (za1 c.hr.u66 (zab 6) (zab 2)) (zac (js_sub c.hr.u66 (zao (zal c.hr.u66 (zab 2) (zab 4)) (zck (zaa (zab 5) zae))) (zab 2) (zab 6))
  (zac (js_expr (je_mth .append PySem.F.plainAttrs_list PySem.F.slot_list_append PySem.F.type_list_append (fun _ => zb9) (zab 3) (zaa (zab 6) zae)))
  zah)) zah)
  zah))
  zah)))
  (zac (zat (zab 2))
  zah))))
theorem jb_road_among (T : Fcts K mg) (G : Fns P w K mg base k) (c : Cq (cxOf (L2N.CX P w) P w K mg base N_road_among "road_among" (defScope zb3) f cdv A outer s H E) (fun c d _ H => E c d H) k) :
    JSs (cxOf (L2N.CX P w) P w K mg base N_road_among "road_among" (defScope zb3) f cdv A outer s H E) (fun c d _ H => E c d H) (call tbl k) (defBody zb3) F_road_among.body :=
  (zac (zat (je_mth .get1 PySem.F.plainAttrs_dict PySem.F.slot_dict_get PySem.F.type_dict_get (fun _ => (mt_get1_ok (Nat.lt_of_le_of_lt (Nat.add_le_add_left (by decide : 1 ≤ 66) _) c.hr.u66))) (zak G.g_roads_among c.calm c.hr c.tk (zaa (zab 0) (zaa (zab 1) zae))) (zaa (zab 2) zae)))
  zah)
theorem jb_reach_among (T : Fcts K mg) (G : Fns P w K mg base k) (c : Cq (cxOf (L2N.CX P w) P w K mg base N_reach_among "reach_among" (defScope zbq) f cdv A outer s H E) (fun c d _ H => E c d H) k) :
    JSs (cxOf (L2N.CX P w) P w K mg base N_reach_among "reach_among" (defScope zbq) f cdv A outer s H E) (fun c d _ H => E c d H) (call tbl k) (defBody zbq) F_reach_among.body :=
  (zac (zat (za0 .sorted1 (fun _ => (bi_sorted c.calm c.hr.u66)) T.fr_sorted (by decide +kernel) (zaa (zak G.g_roads_among c.calm c.hr c.tk (zaa (zab 0) (zaa (zab 1) zae))) zae)))
  zah)
theorem jb_road_of (T : Fcts K mg) (G : Fns P w K mg base k) (c : Cq (cxOf (L2N.CX P w) P w K mg base N_road_of "road_of" (defScope s_road_of) f cdv A outer s H E) (fun c d _ H => E c d H) k) :
    JSs (cxOf (L2N.CX P w) P w K mg base N_road_of "road_of" (defScope s_road_of) f cdv A outer s H E) (fun c d _ H => E c d H) (call tbl k) (defBody s_road_of) F_road_of.body :=
  (zac (zap (i := 3) c.nd (zak G.g_road_among c.calm c.hr c.tk (zaa (zak G.g_tie_rows c.calm c.hr c.tk (zaa (zab 0) zae)) (zaa (zab 1) (zaa (zab 2) zae)))))
  (zac (zcj (za1 c.hr.u66 (zab 3) je_non) (zac (js_raise G.x_NotJoined c.calm c.tk (c.hr.mono (by omega)) (zaa (zab 1) (zaa (zab 2) zae)))
  zah) zah)
  (zac (zat (zab 3))
  zah)))
theorem jb_chain_move (T : Fcts K mg) (G : Fns P w K mg base k) (c : Cq (cxOf (L2N.CX P w) P w K mg base N_chain_move "chain_move" (defScope zbm) f cdv A outer s H E) (fun c d _ H => E c d H) k) :
    JSs (cxOf (L2N.CX P w) P w K mg base N_chain_move "chain_move" (defScope zbm) f cdv A outer s H E) (fun c d _ H => E c d H) (call tbl k) (defBody zbm) F_chain_move.body :=
  (zac (js_setD (i := 2) (own := [("telling", 6)]) (is := [6]) (one := .one) c.calm c.nd (zc5 (zab 0)) (blkOk_by (own := [("telling", 6)]) (N := N_chain_move) (sc := defScope zbm) (by decide +kernel)) (fun sB HB CB clB fpB => (zcg (c.blk sB HB _ _ fpB).nd)) (fun sB HB CB clB fpB => cd_none) (fun sB HB CB clB fpB => (zal (c.blk sB HB _ _ fpB).hr.u66 (zab 6) zaf)) (fun sB HB CB clB fpB => (zal (c.blk sB HB _ _ fpB).hr.u66 (zab 6) zaf)))
  (zac (zap (i := 3) c.nd (je_con T.co_SAME))
  (zac (js_for0 (is := [4, 5]) (one := .tup) c.po c.calm (zc5 (zab 1)) (tg_tup c.calm (za2 (i := 4) c.nd (za2 (i := 5) c.nd tgs_nil))) (zac (zap (i := 3) c.nd (zak G.g_move_then c.calm c.hr c.tk (zaa (zab 3) (zaa (je_ite (jt_val (zab 5)) (zal c.hr.u66 (zab 2) (zab 4)) (zak G.g_move_back c.calm c.hr c.tk (zaa (zal c.hr.u66 (zab 2) (zab 4)) zae))) zae))))
  zah))
  (zac (zat (zab 3))
  zah))))
theorem jb_heir_of (T : Fcts K mg) (G : Fns P w K mg base k) (c : Cq (cxOf (L2N.CX P w) P w K mg base N_heir_of "heir_of" (defScope s_heir_of) f cdv A outer s H E) (fun c d _ H => E c d H) k) :
    JSs (cxOf (L2N.CX P w) P w K mg base N_heir_of "heir_of" (defScope s_heir_of) f cdv A outer s H E) (fun c d _ H => E c d H) (call tbl k) (defBody s_heir_of) F_heir_of.body :=
  (zac (zap (i := 2) c.nd (zak G.g_named c.calm c.hr c.tk (zaa (zab 0) (zaa (zab 1) zae))))
  (zac (zap (i := 3) c.nd (zak G.g_tie_rows c.calm c.hr c.tk (zaa (zab 0) zae)))
  (zac (zcj (za1 c.hr.u66 (zab 2) (zab 3)) (zac (js_raise G.x_NoTie c.calm c.tk (c.hr.mono (by omega)) (zaa (zab 1) zae))
  zah) zah)
  (zac (zap (i := 4) c.nd (zak G.g_reach_among c.calm c.hr c.tk (zaa (je_comp (own := [("other", 6)]) (is := [6]) (one := .one) c.calm c.nd (zc5 (zab 3)) (blkOk_by (own := [("other", 6)]) (N := N_heir_of) (sc := defScope s_heir_of) (by decide +kernel)) (fun sB HB CB clB fpB => (zcg (c.blk sB HB _ _ fpB).nd)) (fun sB HB CB clB fpB => cd_some (za1 (c.blk sB HB _ _ fpB).hr.u66 (zab 6) (zab 2))) (fun sB HB CB clB fpB => (zab 6))) (zaa (zal c.hr.u66 (zab 2) zaf) zae))))
  (zac (js_for0 (is := [5]) (one := .one) c.po c.calm (zc5 (zak G.g_in_order c.calm c.hr c.tk (zaa (zab 0) zae))) (zcg c.nd) (zac (zcj (jt_bool (jw_and (za1 c.hr.u66 (zab 5) (zab 2)) (jw_and1 (za1 c.hr.u66 (je_cmp c.hr.u66 (zal c.hr.u66 (zab 5) zaf) (zab 4)) (je_cmp c.hr.u66 (zal c.hr.u66 (zab 5) zaf) (zab 4)))))) (zac (zat (zal c.hr.u66 (zab 5) zaf))
  zah) zah)
  zah))
  (zac (zat je_non)
  zah))))))
theorem jb_bars_of (T : Fcts K mg) (G : Fns P w K mg base k) (c : Cq (cxOf (L2N.CX P w) P w K mg base N_bars_of "bars_of" (defScope zci) f cdv A outer s H E) (fun c d _ H => E c d H) k) :
    JSs (cxOf (L2N.CX P w) P w K mg base N_bars_of "bars_of" (defScope zci) f cdv A outer s H E) (fun c d _ H => E c d H) (call tbl k) (defBody zci) F_bars_of.body :=
  (zac (zap (i := 1) c.nd (zak G.g_tie_rows c.calm c.hr c.tk (zaa (zab 0) zae)))
  (zac (zap (i := 2) c.nd (je_firsts (own := [("tie", 4)]) (j := 1) (it := 4) c.calm c.nd (pr_var 1) (blkOk_by (own := [("tie", 4)]) (N := N_bars_of) (sc := defScope zci) (by decide +kernel)) (fun sB HB CB clB fpB => (zcg (c.blk sB HB _ _ fpB).nd)) (fun sB HB CB clB fpB => pr_var 4) (fun sB HB CB clB fpB => pe_int)))
  (zac (js_setC (i := 3) (own := [("telling", 5)]) (is := [5]) (one := .one) c.calm c.nd (zc5 (zak G.g_in_order c.calm c.hr c.tk (zaa (zab 0) zae))) (blkOk_by (own := [("telling", 5)]) (N := N_bars_of) (sc := defScope zci) (by decide +kernel)) (fun sB HB CB clB fpB => (zcg (c.blk sB HB _ _ fpB).nd)) (fun sB HB CB clB fpB => cd_some (za1 (c.blk sB HB _ _ fpB).hr.u66 (zal (c.blk sB HB _ _ fpB).hr.u66 (zab 5) zaf) (zab 2))) (fun sB HB CB clB fpB => (zab 5)))
  (zac (zat (je_dcomp (own := [("row", 6)]) (is := [6]) (one := .one) c.calm c.nd (zc5 (zab 3)) (blkOk_by (own := [("row", 6)]) (N := N_bars_of) (sc := defScope zci) (by decide +kernel)) (fun sB HB CB clB fpB => (zcg (c.blk sB HB _ _ fpB).nd)) (fun sB HB CB clB fpB => cd_none) (fun sB HB CB clB fpB => (zal (c.blk sB HB _ _ fpB).hr.u66 (zab 6) zaf)) (fun sB HB CB clB fpB => (zak G.g_road_among (c.blk sB HB _ _ fpB).calm (c.blk sB HB _ _ fpB).hr (c.blk sB HB _ _ fpB).tk (zaa (zab 1) (zaa (zal (c.blk sB HB _ _ fpB).hr.u66 (zab 6) zaf) (zaa (zal (c.blk sB HB _ _ fpB).hr.u66 (zab 6) zaf) zae)))))))
  zah))))
theorem jb_words_of (T : Fcts K mg) (G : Fns P w K mg base k) (c : Cq (cxOf (L2N.CX P w) P w K mg base N_words_of "words_of" (defScope s_words_of) f cdv A outer s H E) (fun c d _ H => E c d H) k) :
    JSs (cxOf (L2N.CX P w) P w K mg base N_words_of "words_of" (defScope s_words_of) f cdv A outer s H E) (fun c d _ H => E c d H) (call tbl k) (defBody s_words_of) F_words_of.body :=
  (zac (zap (i := 1) c.nd (zak G.g_bars_of c.calm c.hr c.tk (zaa (zab 0) zae)))
  (zac (zap (i := 2) c.nd (zck zae))
  (zac (js_for0 (is := [3]) (one := .one) c.po c.calm (zc5 (zak G.g_in_order c.calm c.hr c.tk (zaa (zab 0) zae))) (zcg c.nd) (zac (js_par (i := 4) (j := 5) c.calm c.nd (zaa (zal c.hr.u66 (zab 3) zaf) (zaa (zal c.hr.u66 (zab 3) zaf) zae)))
  (zac (zap (i := 6) c.nd je_str)
  (zac (zcj (za1 c.hr.u66 (zab 4) (zab 1)) (zac (zap (i := 6) c.nd (je_ite (za1 c.hr.u66 (zak G.g_chain_move c.calm c.hr c.tk (zaa (zab 0) (zaa (zal c.hr.u66 (zab 1) (zab 4)) zae))) (zab 5)) je_str je_str))
  zah) zah)
  (zac (js_expr (je_mth .append PySem.F.plainAttrs_list PySem.F.slot_list_append PySem.F.type_list_append (fun _ => zb9) (zab 2) (zaa (zca (zaa (zab 4) (zaa (zab 6) zae))) zae)))
  zah)))))
  (zac (zat (zab 2))
  zah))))
theorem jb__law_start (T : Fcts K mg) (G : Fns P w K mg base k) (c : Cq (cxOf (L2N.CX P w) P w K mg base N__law_start "_law_start" (defScope zba) f cdv A outer s H E) (fun c d _ H => E c d H) k) :
    JSs (cxOf (L2N.CX P w) P w K mg base N__law_start "_law_start" (defScope zba) f cdv A outer s H E) (fun c d _ H => E c d H) (call tbl k) (defBody zba) F_law_start.body :=
  (zac (js_setC (i := 1) (own := [("_law_cell", 2)]) (is := [2]) (one := .one) c.calm c.nd (zc5 (zab 0)) (blkOk_by (own := [("_law_cell", 2)]) (N := N__law_start) (sc := defScope zba) (by decide +kernel)) (fun sB HB CB clB fpB => (zcg (c.blk sB HB _ _ fpB).nd)) (fun sB HB CB clB fpB => cd_some (za1 (c.blk sB HB _ _ fpB).hr.u66 (zab 2) (zao zaf zaf))) (fun sB HB CB clB fpB => (zab 2)))
  (zac (zat (zck (zaa (zab 1) (zaa zaf (zaa (je_comp (own := [("_law_cell", 2)]) (is := [2]) (one := .one) c.calm c.nd (zc5 (zab 0)) (blkOk_by (own := [("_law_cell", 2)]) (N := N__law_start) (sc := defScope zba) (by decide +kernel)) (fun sB HB CB clB fpB => (zcg (c.blk sB HB _ _ fpB).nd)) (fun sB HB CB clB fpB => cd_none) (fun sB HB CB clB fpB => (zao (zab 2) zaf))) (zaa zaf zae))))))
  zah))
theorem jb__law_draw (T : Fcts K mg) (G : Fns P w K mg base k) (c : Cq (cxOf (L2N.CX P w) P w K mg base N__law_draw "_law_draw" (defScope zct) f cdv A outer s H E) (fun c d _ H => E c d H) k) :
    JSs (cxOf (L2N.CX P w) P w K mg base N__law_draw "_law_draw" (defScope zct) f cdv A outer s H E) (fun c d _ H => E c d H) (call tbl k) (defBody zct) F_law_draw.body :=
  (zac (zcj (jt_bool (jw_and (za1 c.hr.u66 (zal c.hr.u66 (zab 0) zaf) zaf) (jw_and1 (jt_val (zal c.hr.u66 (zab 0) zaf))))) (zac (js_sub c.hr.u66 (je_mth .popAt PySem.F.plainAttrs_list PySem.F.slot_list_pop PySem.F.type_list_pop (fun _ => mt_popAt_ok) (zal c.hr.u66 (zab 0) zaf) (zaa zaf zae)) (zab 0) zaf)
  zah) zah)
  (zac (zcj (za1 c.hr.u66 (zal c.hr.u66 (zab 0) zaf) zaf) (zac (zap (i := 2) c.nd (zao (zal c.hr.u66 (zab 0) zaf) (zab 1)))
  (zac (js_sub c.hr.u66 (zao (zal c.hr.u66 (zab 0) zaf) (zab 1)) (zab 0) zaf)
  (zac (zat (zab 2))
  zah))) zah)
  (zac (zap (i := 2) c.nd zaf)
  (zac (zap (i := 3) c.nd zaf)
  (zac (js_while0 c.po (za1 c.hr.u66 (zab 3) (zab 1)) (zac (zap (i := 2) c.nd (zao (zao (zab 2) zaf) (zak G.g__law_mix c.calm c.hr c.tk (zaa (zab 0) zae))))
  (zac (zap (i := 3) c.nd (zao (zab 3) zaf))
  zah)))
  (zac (zat (zao (zab 2) (zab 1)))
  zah))))))
theorem jb__law_mix (T : Fcts K mg) (G : Fns P w K mg base k) (c : Cq (cxOf (L2N.CX P w) P w K mg base N__law_mix "_law_mix" (defScope s__law_mix) f cdv A outer s H E) (fun c d _ H => E c d H) k) :
    JSs (cxOf (L2N.CX P w) P w K mg base N__law_mix "_law_mix" (defScope s__law_mix) f cdv A outer s H E) (fun c d _ H => E c d H) (call tbl k) (defBody s__law_mix) F_law_mix.body :=
  (zac (js_augs c.hr.u66 (zab 0) zaf zaf)
  (zac (zap (i := 1) c.nd (zal c.hr.u66 (zab 0) zaf))
  (zac (zap (i := 2) c.nd zaf)
  (zac (zcj (jt_val (zal c.hr.u66 (zab 0) zaf)) (zac (zap (i := 2) c.nd (zal c.hr.u66 (zal c.hr.u66 (zab 0) zaf) (zao (zab 1) (za0 .len (fun _ => bi_len) T.fr_len (by decide +kernel) (zaa (zal c.hr.u66 (zab 0) zaf) zae)))))
  zah) zah)
  (zac (zap (i := 3) c.nd (zao (zao (zao (zao (zao (zab 2) (zao (zao zaf (zab 1)) (zab 1))) (zao zaf (zab 1))) zaf) zaf) zaf))
  (zac (zat (zao (zao (zao (zab 3) zaf) (zao zaf (zab 1))) zaf))
  zah))))))
theorem jb__law_whole (T : Fcts K mg) (G : Fns P w K mg base k) (c : Cq (cxOf (L2N.CX P w) P w K mg base N__law_whole "_law_whole" (defScope zb5) f cdv A outer s H E) (fun c d _ H => E c d H) k) :
    JSs (cxOf (L2N.CX P w) P w K mg base N__law_whole "_law_whole" (defScope zb5) f cdv A outer s H E) (fun c d _ H => E c d H) (call tbl k) (defBody zb5) F_law_whole.body :=
  (zac (zat (je_and (za0 .isinst (fun _ => zaz) T.fr_isinstance (by decide +kernel) (zaa (zab 0) (zaa (je_ty .int T.fr_int (by decide +kernel)) zae))) (je_one (je_not (za0 .isinst (fun _ => zaz) T.fr_isinstance (by decide +kernel) (zaa (zab 0) (zaa (je_ty .bool T.fr_bool (by decide +kernel)) zae)))))))
  zah)
theorem jb__law_same (T : Fcts K mg) (G : Fns P w K mg base k) (c : Cq (cxOf (L2N.CX P w) P w K mg base zcw "_law_same" (defScope za4) f cdv A outer s H E) (fun c d _ H => E c d H) k) :
    JSs (cxOf (L2N.CX P w) P w K mg base zcw "_law_same" (defScope za4) f cdv A outer s H E) (fun c d _ H => E c d H) (call tbl k) (defBody za4) F_law_same.body :=
  (zac (zcj (jt_val (za0 .isinst (fun _ => zaz) T.fr_isinstance (by decide +kernel) (zaa (zab 1) (zaa (zca (zaa (je_ty .tuple T.fr_tuple (by decide +kernel)) (zaa (je_ty .list T.fr_list (by decide +kernel)) zae))) zae)))) (zac (zcj (za1 c.hr.u66 (za0 .isinst (fun _ => zaz) T.fr_isinstance (by decide +kernel) (zaa (zab 0) (zaa (je_ty .tuple T.fr_tuple (by decide +kernel)) zae))) (za0 .isinst (fun _ => zaz) T.fr_isinstance (by decide +kernel) (zaa (zab 1) (zaa (je_ty .tuple T.fr_tuple (by decide +kernel)) zae)))) (zac (zat je_bl)
  zah) zah)
  (zac (zcj (jt_bool (jw_or (za1 c.hr.u66 (za0 .isinst (fun _ => zaz) T.fr_isinstance (by decide +kernel) (zaa (zab 0) (zaa (je_ty .list T.fr_list (by decide +kernel)) zae))) (za0 .isinst (fun _ => zaz) T.fr_isinstance (by decide +kernel) (zaa (zab 1) (zaa (je_ty .list T.fr_list (by decide +kernel)) zae)))) (jw_or1 (za1 c.hr.u66 (za0 .len (fun _ => bi_len) T.fr_len (by decide +kernel) (zaa (zab 0) zae)) (za0 .len (fun _ => bi_len) T.fr_len (by decide +kernel) (zaa (zab 1) zae)))))) (zac (zat je_bl)
  zah) zah)
  (zac (zat (za0 .all (fun _ => (bi_all c.calm)) T.fr_all (by decide +kernel) (zaa (je_comp (own := [("_law_one", 2), ("_law_other", 3)]) (is := [2, 3]) (one := .tup) c.calm c.nd (ji_zip T.fr_zip (zaa (zab 0) (zaa (zab 1) zae))) (blkOk_by (own := [("_law_one", 2), ("_law_other", 3)]) (N := zcw) (sc := defScope za4) (by decide +kernel)) (fun sB HB CB clB fpB => (tg_tup (c.blk sB HB _ _ fpB).calm (za2 (i := 2) (c.blk sB HB _ _ fpB).nd (za2 (i := 3) (c.blk sB HB _ _ fpB).nd tgs_nil)))) (fun sB HB CB clB fpB => cd_none) (fun sB HB CB clB fpB => (zak G.g__law_same (c.blk sB HB _ _ fpB).calm (c.blk sB HB _ _ fpB).hr (c.blk sB HB _ _ fpB).tk (zaa (zab 2) (zaa (zab 3) zae))))) zae)))
  zah))) zah)
  (zac (zcj (za1 c.hr.u66 (zab 1) je_non) (zac (zat (je_cmp c.hr.u66 (zab 0) je_non))
  zah) zah)
  (zac (zcj (jt_val (za0 .isinst (fun _ => zaz) T.fr_isinstance (by decide +kernel) (zaa (zab 1) (zaa (je_ty .str T.fr_str (by decide +kernel)) zae)))) (zac (zat (je_and (za0 .isinst (fun _ => zaz) T.fr_isinstance (by decide +kernel) (zaa (zab 0) (zaa (je_ty .str T.fr_str (by decide +kernel)) zae))) (je_one (je_cmp c.hr.u66 (zab 0) (zab 1)))))
  zah) zah)
  (zac (zat (je_and (za0 .isinst (fun _ => zaz) T.fr_isinstance (by decide +kernel) (zaa (zab 0) (zaa (je_ty .int T.fr_int (by decide +kernel)) zae))) (je_and (je_cmp c.hr.u66 (za0 .isinst (fun _ => zaz) T.fr_isinstance (by decide +kernel) (zaa (zab 0) (zaa (je_ty .bool T.fr_bool (by decide +kernel)) zae))) (za0 .isinst (fun _ => zaz) T.fr_isinstance (by decide +kernel) (zaa (zab 1) (zaa (je_ty .bool T.fr_bool (by decide +kernel)) zae)))) (je_one (je_cmp c.hr.u66 (zab 0) (zab 1))))))
  zah))))
theorem jb__law_lowest (T : Fcts K mg) (G : Fns P w K mg base k) (c : Cq (cxOf (L2N.CX P w) P w K mg base N__law_lowest "_law_lowest" (defScope zbs) f cdv A outer s H E) (fun c d _ H => E c d H) k) :
    JSs (cxOf (L2N.CX P w) P w K mg base N__law_lowest "_law_lowest" (defScope zbs) f cdv A outer s H E) (fun c d _ H => E c d H) (call tbl k) (defBody zbs) F_law_lowest.body :=
  (zac (zap (i := 2) c.nd (za0 .abs (fun _ => bi_abs) T.fr_abs (by decide +kernel) (zaa (zab 0) zae)))
  (zac (zap (i := 3) c.nd (za0 .abs (fun _ => bi_abs) T.fr_abs (by decide +kernel) (zaa (zab 1) zae)))
  (zac (js_while0 c.po (za1 c.hr.u66 (zab 3) zaf) (zac (js_par (i := 2) (j := 3) c.calm c.nd (zaa (zab 3) (zaa (zao (zab 2) (zab 3)) zae)))
  zah))
  (zac (zcj (za1 c.hr.u66 (zab 1) zaf) (zac (zap (i := 2) c.nd (zao zaf (zab 2)))
  zah) zah)
  (zac (zat (zca (zaa (zao (zab 0) (zab 2)) (zaa (zao (zab 1) (zab 2)) zae))))
  zah)))))
theorem jb__law_plus (T : Fcts K mg) (G : Fns P w K mg base k) (c : Cq (cxOf (L2N.CX P w) P w K mg base N__law_plus "_law_plus" (defScope zcr) f cdv A outer s H E) (fun c d _ H => E c d H) k) :
    JSs (cxOf (L2N.CX P w) P w K mg base N__law_plus "_law_plus" (defScope zcr) f cdv A outer s H E) (fun c d _ H => E c d H) (call tbl k) (defBody zcr) F_law_plus.body :=
  (zac (zat (zak G.g__law_lowest c.calm c.hr c.tk (zaa (zao (zao (zal c.hr.u66 (zab 0) zaf) (zal c.hr.u66 (zab 1) zaf)) (zao (zal c.hr.u66 (zab 1) zaf) (zal c.hr.u66 (zab 0) zaf))) (zaa (zao (zal c.hr.u66 (zab 0) zaf) (zal c.hr.u66 (zab 1) zaf)) zae))))
  zah)
theorem jb__law_times (T : Fcts K mg) (G : Fns P w K mg base k) (c : Cq (cxOf (L2N.CX P w) P w K mg base N__law_times "_law_times" (defScope zb6) f cdv A outer s H E) (fun c d _ H => E c d H) k) :
    JSs (cxOf (L2N.CX P w) P w K mg base N__law_times "_law_times" (defScope zb6) f cdv A outer s H E) (fun c d _ H => E c d H) (call tbl k) (defBody zb6) F_law_times.body :=
  (zac (zat (zak G.g__law_lowest c.calm c.hr c.tk (zaa (zao (zal c.hr.u66 (zab 0) zaf) (zal c.hr.u66 (zab 1) zaf)) (zaa (zao (zal c.hr.u66 (zab 0) zaf) (zal c.hr.u66 (zab 1) zaf)) zae))))
  zah)
theorem jb__law_led (T : Fcts K mg) (G : Fns P w K mg base k) (c : Cq (cxOf (L2N.CX P w) P w K mg base N__law_led "_law_led" (defScope s__law_led) f cdv A outer s H E) (fun c d _ H => E c d H) k) :
    JSs (cxOf (L2N.CX P w) P w K mg base N__law_led "_law_led" (defScope s__law_led) f cdv A outer s H E) (fun c d _ H => E c d H) (call tbl k) (defBody s__law_led) F_law_led.body :=
  (zac (zat (zak G.g__law_plus c.calm c.hr c.tk (zaa (zak G.g__law_times c.calm c.hr c.tk (zaa (zal c.hr.u66 (zab 0) zaf) (zaa (zab 1) zae))) (zaa (zal c.hr.u66 (zab 0) zaf) zae))))
  zah)
theorem jb__law_then (T : Fcts K mg) (G : Fns P w K mg base k) (c : Cq (cxOf (L2N.CX P w) P w K mg base N__law_then "_law_then" (defScope zcq) f cdv A outer s H E) (fun c d _ H => E c d H) k) :
    JSs (cxOf (L2N.CX P w) P w K mg base N__law_then "_law_then" (defScope zcq) f cdv A outer s H E) (fun c d _ H => E c d H) (call tbl k) (defBody zcq) F_law_then.body :=
  (zac (zat (zca (zaa (zak G.g__law_times c.calm c.hr c.tk (zaa (zal c.hr.u66 (zab 1) zaf) (zaa (zal c.hr.u66 (zab 0) zaf) zae))) (zaa (zak G.g__law_led c.calm c.hr c.tk (zaa (zab 1) (zaa (zal c.hr.u66 (zab 0) zaf) zae))) zae))))
  zah)
theorem jb__law_back (T : Fcts K mg) (G : Fns P w K mg base k) (c : Cq (cxOf (L2N.CX P w) P w K mg base N__law_back "_law_back" (defScope zcu) f cdv A outer s H E) (fun c d _ H => E c d H) k) :
    JSs (cxOf (L2N.CX P w) P w K mg base N__law_back "_law_back" (defScope zcu) f cdv A outer s H E) (fun c d _ H => E c d H) (call tbl k) (defBody zcu) F_law_back.body :=
  (zac (zap (i := 1) c.nd (zak G.g__law_lowest c.calm c.hr c.tk (zaa (zal c.hr.u66 (zal c.hr.u66 (zab 0) zaf) zaf) (zaa (zal c.hr.u66 (zal c.hr.u66 (zab 0) zaf) zaf) zae))))
  (zac (zat (zca (zaa (zab 1) (zaa (zak G.g__law_times c.calm c.hr c.tk (zaa (zab 1) (zaa (zca (zaa (zao zaf (zal c.hr.u66 (zal c.hr.u66 (zab 0) zaf) zaf)) (zaa (zal c.hr.u66 (zal c.hr.u66 (zab 0) zaf) zaf) zae))) zae))) zae))))
  zah))
theorem jb__law_names (T : Fcts K mg) (G : Fns P w K mg base k) (c : Cq (cxOf (L2N.CX P w) P w K mg base N__law_names "_law_names" (defScope zbb) f cdv A outer s H E) (fun c d _ H => E c d H) k) :
    JSs (cxOf (L2N.CX P w) P w K mg base N__law_names "_law_names" (defScope zbb) f cdv A outer s H E) (fun c d _ H => E c d H) (call tbl k) (defBody zbb) F_law_names.body :=
  (zac (zap (i := 2) c.nd je_str)
  (zac (zap (i := 3) c.nd (zck zae))
  (zac (js_for0 (is := [4]) (one := .one) c.po c.calm (ji_range T.fr_range (zaa (zab 1) zae)) (zcg c.nd) (zac (zap (i := 5) c.nd (je_mth .join PySem.F.plainAttrs_str PySem.F.slot_str_join PySem.F.type_str_join (fun _ => mt_join_ok) je_str (zaa (je_comp (own := [("_law_j", 6)]) (is := [6]) (one := .one) c.calm c.nd (ji_range T.fr_range (zaa (zao zaf (zak G.g__law_draw c.calm c.hr c.tk (zaa (zab 0) (zaa zaf zae)))) zae)) (blkOk_by (own := [("_law_j", 6)]) (N := N__law_names) (sc := defScope zbb) (by decide +kernel)) (fun sB HB CB clB fpB => (zcg (c.blk sB HB _ _ fpB).nd)) (fun sB HB CB clB fpB => cd_none) (fun sB HB CB clB fpB => (zal (c.blk sB HB _ _ fpB).hr.u66 je_str (zak G.g__law_draw (c.blk sB HB _ _ fpB).calm (c.blk sB HB _ _ fpB).hr (c.blk sB HB _ _ fpB).tk (zaa (zab 0) (zaa zaf zae)))))) zae)))
  (zac (zcj (za1 c.hr.u66 (zak G.g__law_draw c.calm c.hr c.tk (zaa (zab 0) (zaa zaf zae))) zaf) (zac (zap (i := 5) c.nd (je_mth .join PySem.F.plainAttrs_str PySem.F.slot_str_join PySem.F.type_str_join (fun _ => mt_join_ok) je_str (zaa (je_comp (own := [("_law_j", 6)]) (is := [6]) (one := .one) c.calm c.nd (ji_range T.fr_range (zaa (zao zaf (zak G.g__law_draw c.calm c.hr c.tk (zaa (zab 0) (zaa zaf zae)))) zae)) (blkOk_by (own := [("_law_j", 6)]) (N := N__law_names) (sc := defScope zbb) (by decide +kernel)) (fun sB HB CB clB fpB => (zcg (c.blk sB HB _ _ fpB).nd)) (fun sB HB CB clB fpB => cd_none) (fun sB HB CB clB fpB => (zal (c.blk sB HB _ _ fpB).hr.u66 (zab 2) (zak G.g__law_draw (c.blk sB HB _ _ fpB).calm (c.blk sB HB _ _ fpB).hr (c.blk sB HB _ _ fpB).tk (zaa (zab 0) (zaa zaf zae)))))) zae)))
  zah) zah)
  (zac (zcj (za1 c.hr.u66 (zab 5) (zab 3)) (zac (zap (i := 5) c.nd (zao (zao je_str (zal c.hr.u66 (zab 2) (zao (zab 4) zaf))) (zal c.hr.u66 (zab 2) (zao (zab 4) zaf))))
  zah) zah)
  (zac (js_expr (je_mth .append PySem.F.plainAttrs_list PySem.F.slot_list_append PySem.F.type_list_append (fun _ => zb9) (zab 3) (zaa (zab 5) zae)))
  zah)))))
  (zac (zat (zab 3))
  zah))))
theorem jb__law_world (T : Fcts K mg) (G : Fns P w K mg base k) (c : Cq (cxOf (L2N.CX P w) P w K mg base N__law_world "_law_world" (defScope zb4) f cdv A outer s H E) (fun c d _ H => E c d H) k) :
    JSs (cxOf (L2N.CX P w) P w K mg base N__law_world "_law_world" (defScope zb4) f cdv A outer s H E) (fun c d _ H => E c d H) (call tbl k) (defBody zb4) F_law_world.body :=
  (zac (zap (i := 2) c.nd (zal c.hr.u66 (zck (zaa zaf (zaa zaf (zaa zaf zae)))) (zak G.g__law_draw c.calm c.hr c.tk (zaa (zab 0) (zaa zaf zae)))))
  (zac (zap (i := 3) c.nd je_dct0)
  (zac (js_for0 (is := [4]) (one := .one) c.po c.calm (zc5 (zab 1)) (zcg c.nd) (zac (zap (i := 5) c.nd (zao zaf (zao zaf (zak G.g__law_draw c.calm c.hr c.tk (zaa (zab 0) (zaa zaf zae))))))
  (zac (zap (i := 6) c.nd (zak G.g__law_lowest c.calm c.hr c.tk (zaa (zao (zab 5) (zao zaf (zak G.g__law_draw c.calm c.hr c.tk (zaa (zab 0) (zaa (zab 2) zae))))) (zaa (zao zaf (zak G.g__law_draw c.calm c.hr c.tk (zaa (zab 0) (zaa (za0 .min2 (fun _ => (bi_min2 c.calm)) T.fr_min (by decide +kernel) (zaa (zab 2) (zaa zaf zae))) zae)))) zae))))
  (zac (zap (i := 7) c.nd (zak G.g__law_lowest c.calm c.hr c.tk (zaa (zao (zak G.g__law_draw c.calm c.hr c.tk (zaa (zab 0) (zaa (zao (zao zaf (zab 2)) zaf) zae))) (zab 2)) (zaa (zao zaf (zak G.g__law_draw c.calm c.hr c.tk (zaa (zab 0) (zaa (za0 .min2 (fun _ => (bi_min2 c.calm)) T.fr_min (by decide +kernel) (zaa (zab 2) (zaa zaf zae))) zae)))) zae))))
  (zac (js_sub c.hr.u66 (zca (zaa (zab 6) (zaa (zab 7) zae))) (zab 3) (zab 4))
  zah)))))
  (zac (zat (zab 3))
  zah))))
theorem jb__law_tellings (T : Fcts K mg) (G : Fns P w K mg base k) (c : Cq (cxOf (L2N.CX P w) P w K mg base N__law_tellings "_law_tellings" (defScope za7) f cdv A outer s H E) (fun c d _ H => E c d H) k) :
    JSs (cxOf (L2N.CX P w) P w K mg base N__law_tellings "_law_tellings" (defScope za7) f cdv A outer s H E) (fun c d _ H => E c d H) (call tbl k) (defBody za7) F_law_tellings.body :=
  (zac (zap (i := 3) c.nd (zck (zaa (zak G.g__law_world c.calm c.hr c.tk (zaa (zab 0) (zaa (zab 1) zae))) (zaa (zak G.g__law_world c.calm c.hr c.tk (zaa (zab 0) (zaa (zab 1) zae))) zae))))
  (zac (zap (i := 4) c.nd (zal c.hr.u66 (zck (zaa zaf (zaa zaf (zaa zaf (zaa (zao zaf zaf) zae))))) (zak G.g__law_draw c.calm c.hr c.tk (zaa (zab 0) (zaa zaf zae)))))
  (zac (zap (i := 5) c.nd (zck zae))
  (zac (js_for0 (is := [6]) (one := .one) c.po c.calm (zc5 (zak G.g__law_names c.calm c.hr c.tk (zaa (zab 0) (zaa (zab 2) zae)))) (zcg c.nd) (zac (zap (i := 7) c.nd (zal c.hr.u66 (zab 1) (zak G.g__law_draw c.calm c.hr c.tk (zaa (zab 0) (zaa (za0 .len (fun _ => bi_len) T.fr_len (by decide +kernel) (zaa (zab 1) zae)) zae)))))
  (zac (zap (i := 8) c.nd (zal c.hr.u66 (zab 1) (zak G.g__law_draw c.calm c.hr c.tk (zaa (zab 0) (zaa (za0 .len (fun _ => bi_len) T.fr_len (by decide +kernel) (zaa (zab 1) zae)) zae)))))
  (zac (zap (i := 9) c.nd (zak G.g__law_draw c.calm c.hr c.tk (zaa (zab 0) (zaa zaf zae))))
  (zac (zap (i := 10) c.nd (zal c.hr.u66 (zab 3) (je_biT .int1 (fun _ => bi_int) T.fr_int (by decide +kernel) (zaa (je_cmp c.hr.u66 (zab 9) zaf) zae))))
  (zac (js_tup (is := [11, 12]) (zak G.g__law_then c.calm c.hr c.tk (zaa (zak G.g__law_back c.calm c.hr c.tk (zaa (zal c.hr.u66 (zab 10) (zab 7)) zae)) (zaa (zal c.hr.u66 (zab 10) (zab 8)) zae))) (tg_tup' c.calm (za2 (i := 11) c.nd (za2 (i := 12) c.nd tgs_nil))))
  (zac (zcj (za1 c.hr.u66 (zab 9) zaf) (zac (zap (i := 12) c.nd (zak G.g__law_plus c.calm c.hr c.tk (zaa (zab 12) (zaa (zca (zaa (zao zaf (zak G.g__law_draw c.calm c.hr c.tk (zaa (zab 0) (zaa zaf zae)))) (zaa zaf zae))) zae))))
  zah) zah)
  (zac (zcj (za1 c.hr.u66 (zab 9) zaf) (zac (zap (i := 11) c.nd (zca (zaa (zao zaf (zal c.hr.u66 (zab 11) zaf)) (zaa (zal c.hr.u66 (zab 11) zaf) zae))))
  zah) zah)
  (zac (js_expr (je_mth .append PySem.F.plainAttrs_list PySem.F.slot_list_append PySem.F.type_list_append (fun _ => zb9) (zab 5) (zaa (zca (zaa (zab 6) (zaa (zab 7) (zaa (zab 8) (zaa (zca (zaa (zab 11) (zaa (zab 12) zae))) (zaa (zak G.g__law_draw c.calm c.hr c.tk (zaa (zab 0) (zaa (zab 4) zae))) zae)))))) zae)))
  zah)))))))))
  (zac (zat (zab 5))
  zah)))))
theorem jb__law_apart (T : Fcts K mg) (G : Fns P w K mg base k) (c : Cq (cxOf (L2N.CX P w) P w K mg base N__law_apart "_law_apart" (defScope zb7) f cdv A outer s H E) (fun c d _ H => E c d H) k) :
    JSs (cxOf (L2N.CX P w) P w K mg base N__law_apart "_law_apart" (defScope zb7) f cdv A outer s H E) (fun c d _ H => E c d H) (call tbl k) (defBody zb7) F_law_apart_2.body :=
  (zac (zap (i := 3) c.nd je_bl)
  (zac (js_tryH c (fun _ _ _ c => (zac (js_expr (zak G.g_road_of c.calm c.hr c.tk (zaa (zab 0) (zaa (zab 1) (zaa (zab 2) zae)))))
  zah)) (JHs.cons T.hj_NotJoined (.at (i := 4) rfl rfl) (fun _ _ _ c => (zac (zap (i := 3) c.nd (je_and (je_callH G.h__law_alone c (zaa (zab 4) zae)) (je_one (je_callH G.h__law_same c (zaa (zca (zaa (je_xat T.xf_NotJoined (T.nf_NotJoined _ (by decide)) (zab 4)) (zaa (je_xat T.xf_NotJoined (T.nf_NotJoined _ (by decide)) (zab 4)) zae))) (zaa (zca (zaa (zab 1) (zaa (zab 2) zae))) zae))))))
  zah)) JHs.nil))
  (zac (zat (zab 3))
  zah)))
theorem jb__law_heir (T : Fcts K mg) (G : Fns P w K mg base k) (c : Cq (cxOf (L2N.CX P w) P w K mg base N__law_heir "_law_heir" (defScope zcs) f cdv A outer s H E) (fun c d _ H => E c d H) k) :
    JSs (cxOf (L2N.CX P w) P w K mg base N__law_heir "_law_heir" (defScope zcs) f cdv A outer s H E) (fun c d _ H => E c d H) (call tbl k) (defBody zcs) F_law_heir.body :=
  (zac (zap (i := 2) c.nd je_non)
  (zac (js_tryN (i := 2) c T.hd_NoTie (fun _ _ _ c => (zac (zap (i := 3) c.nd (zak G.g_heir_of c.calm c.hr c.tk (zaa (zab 0) (zaa (zab 1) zae))))
  (zac (zap (i := 2) c.nd (je_ite (za1 c.hr.u66 (zab 3) je_non) (zck (zaa (zab 3) zae)) (zck zae)))
  zah))))
  (zac (zat (zab 2))
  zah)))
theorem jb_law (T : Fcts K mg) (G : Fns P w K mg base k) (c : Cq (cxOf (L2N.CX P w) P w K mg base N_law "law" (defScope s_law) f cdv A outer s H E) (fun c d _ H => E c d H) k) :
    JSs (cxOf (L2N.CX P w) P w K mg base N_law "law" (defScope s_law) f cdv A outer s H E) (fun c d _ H => E c d H) (call tbl k) (defBody s_law) F_law_39.body :=
  (zac (zap (i := 1) c.nd (zak G.g__law_start c.calm c.hr c.tk (zaa (zab 0) zae)))
  (zac (zap (i := 2) c.nd (zak G.g__law_names c.calm c.hr c.tk (zaa (zab 1) (zaa (zao zaf (zak G.g__law_draw c.calm c.hr c.tk (zaa (zab 1) (zaa zaf zae)))) zae))))
  (zac (zap (i := 3) c.nd (zak G.g__law_tellings c.calm c.hr c.tk (zaa (zab 1) (zaa (zab 2) (zaa (zao zaf (zak G.g__law_draw c.calm c.hr c.tk (zaa (zab 1) (zaa zaf zae)))) zae)))))
  (zac (js_tup (is := [4, 5, 6, 7, 8]) (zal c.hr.u66 (zab 3) (zak G.g__law_draw c.calm c.hr c.tk (zaa (zab 1) (zaa (za0 .len (fun _ => bi_len) T.fr_len (by decide +kernel) (zaa (zab 3) zae)) zae)))) (tg_tup' c.calm (za2 (i := 4) c.nd (za2 (i := 5) c.nd (za2 (i := 6) c.nd (za2 (i := 7) c.nd (za2 (i := 8) c.nd tgs_nil)))))))
  (zac (js_setC (i := 9) (own := [("_law_telling", 14)]) (is := [14]) (one := .one) c.calm c.nd (zc5 (zab 3)) (blkOk_by (own := [("_law_telling", 14)]) (N := N_law) (sc := defScope s_law) (by decide +kernel)) (fun sB HB CB clB fpB => (zcg (c.blk sB HB _ _ fpB).nd)) (fun sB HB CB clB fpB => cd_some (za1 (c.blk sB HB _ _ fpB).hr.u66 (zal (c.blk sB HB _ _ fpB).hr.u66 (zab 14) zaf) (zab 4))) (fun sB HB CB clB fpB => (zab 14)))
  (zac (zap (i := 10) c.nd (zak G.g_ties_of c.calm c.hr c.tk (zaa (zab 3) zae)))
  (zac (zap (i := 11) c.nd (zak G.g__law_heir c.calm c.hr c.tk (zaa (zab 3) (zaa (zab 4) zae))))
  (zac (zcj (za1 c.hr.u66 (zab 11) je_non) (zac (js_setC (i := 12) (own := [("_law_row", 15)]) (is := [15]) (one := .one) c.calm c.nd (zc5 (zak G.g_words_of c.calm c.hr c.tk (zaa (zab 3) zae))) (blkOk_by (own := [("_law_row", 15)]) (N := N_law) (sc := defScope s_law) (by decide +kernel)) (fun sB HB CB clB fpB => (zcg (c.blk sB HB _ _ fpB).nd)) (fun sB HB CB clB fpB => cd_some (za1 (c.blk sB HB _ _ fpB).hr.u66 (zal (c.blk sB HB _ _ fpB).hr.u66 (zab 15) zaf) (zab 4))) (fun sB HB CB clB fpB => (zab 15)))
  (zac (zat (je_and (je_cmp c.hr.u66 (zab 4) (zab 10)) (je_and (zak G.g__law_same c.calm c.hr c.tk (zaa (zak G.g_ties_of c.calm c.hr c.tk (zaa (zab 9) zae)) (zaa (zab 10) zae))) (je_one (zak G.g__law_same c.calm c.hr c.tk (zaa (zak G.g_words_of c.calm c.hr c.tk (zaa (zab 9) zae)) (zaa (zab 12) zae)))))))
  zah)) zah)
  (zac (js_setC (i := 13) (own := [("_law_other", 16)]) (is := [16]) (one := .one) c.calm c.nd (zc5 (zak G.g_order_of c.calm c.hr c.tk (zaa (zab 9) zae))) (blkOk_by (own := [("_law_other", 16)]) (N := N_law) (sc := defScope s_law) (by decide +kernel)) (fun sB HB CB clB fpB => (zcg (c.blk sB HB _ _ fpB).nd)) (fun sB HB CB clB fpB => cd_some (za1 (c.blk sB HB _ _ fpB).hr.u66 (zab 16) (zao (zab 10) (zab 11)))) (fun sB HB CB clB fpB => (zab 16)))
  (zac (zcj (jt_bool (jw_or (za1 c.hr.u66 (zab 4) (zab 10)) (jw_or (jt_not (jt_val (zak G.g__law_same c.calm c.hr c.tk (zaa (zak G.g_ties_of c.calm c.hr c.tk (zaa (zab 9) zae)) (zaa (zab 13) zae))))) (jw_or1 (za1 c.hr.u66 (za0 .len (fun _ => bi_len) T.fr_len (by decide +kernel) (zaa (zab 13) zae)) (zao (zao (za0 .len (fun _ => bi_len) T.fr_len (by decide +kernel) (zaa (zab 10) zae)) zaf) (za0 .len (fun _ => bi_len) T.fr_len (by decide +kernel) (zaa (zab 11) zae)))))))) (zac (zat je_bl)
  zah) zah)
  (zac (zat (je_and (je_cmp c.hr.u66 (zak G.g__law_apart c.calm c.hr c.tk (zaa (zab 9) (zaa (zab 5) (zaa (zab 6) zae)))) (je_cmp c.hr.u66 (zab 11) (zck zae))) (je_one (je_not (zak G.g__law_apart c.calm c.hr c.tk (zaa (zab 3) (zaa (zab 5) (zaa (zab 6) zae))))))))
  zah)))))))))))
theorem jh__law_alone (T : Fcts K mg) (G : Fns P w K mg base k) {p : Addr × Obj} (c : CqX (cxP P w K mg base N__law_alone "_law_alone" (defScope zb8) f cdv A outer s H E p) (fun c d _ H => E c d H) k) :
    JSs (cxP P w K mg base N__law_alone "_law_alone" (defScope zb8) f cdv A outer s H E p) (fun c d _ H => E c d H) (call tbl k) (defBody zb8) F_law_alone.body :=
  (zac (zap (i := 1) c.nd (zck (zaa (za0 .isx (fun _ => zby T.xk) T.fr_isinstance (by decide +kernel) (zaa (zab 0) (zaa (zcb T.cl_NoBottom) zae))) (zaa (za0 .isx (fun _ => zby T.xk) T.fr_isinstance (by decide +kernel) (zaa (zab 0) (zaa (zcb T.cl_NotJoined) zae))) (zaa (za0 .isx (fun _ => zby T.xk) T.fr_isinstance (by decide +kernel) (zaa (zab 0) (zaa (zcb T.cl_NoTelling) zae))) (zaa (za0 .isx (fun _ => zby T.xk) T.fr_isinstance (by decide +kernel) (zaa (zab 0) (zaa (zcb T.cl_NoTie) zae))) zae))))))
  (zac (zap (i := 1) c.nd (zao (zab 1) (zck (zaa (za0 .isx (fun _ => zby T.xk) T.fr_isinstance (by decide +kernel) (zaa (zab 0) (zaa (zcb T.cl_BadName) zae))) (zaa (za0 .isx (fun _ => zby T.xk) T.fr_isinstance (by decide +kernel) (zaa (zab 0) (zaa (zcb T.cl_Taken) zae))) (zaa (za0 .isx (fun _ => zby T.xk) T.fr_isinstance (by decide +kernel) (zaa (zab 0) (zaa (zcb T.cl_NoSuch) zae))) (zaa (za0 .isx (fun _ => zby T.xk) T.fr_isinstance (by decide +kernel) (zaa (zab 0) (zaa (zcb T.cl_InUse) zae))) zae)))))))
  (zac (zap (i := 1) c.nd (zao (zab 1) (zck (zaa (za0 .isx (fun _ => zby T.xk) T.fr_isinstance (by decide +kernel) (zaa (zab 0) (zaa (zcb T.cl_Full) zae))) (zaa (za0 .isx (fun _ => zby T.xk) T.fr_isinstance (by decide +kernel) (zaa (zab 0) (zaa (zcb T.cl_Far) zae))) (zaa (za0 .isx (fun _ => zby T.xk) T.fr_isinstance (by decide +kernel) (zaa (zab 0) (zaa (zcb T.cl_Flat) zae))) (zaa (za0 .isx (fun _ => zby T.xk) T.fr_isinstance (by decide +kernel) (zaa (zab 0) (zaa (zcb T.cl_BadWeight) zae))) zae)))))))
  (zac (zap (i := 1) c.nd (zao (zab 1) (zck (zaa (za0 .isx (fun _ => zby T.xk) T.fr_isinstance (by decide +kernel) (zaa (zab 0) (zaa (zcb T.cl_SameScale) zae))) (zaa (za0 .isx (fun _ => zby T.xk) T.fr_isinstance (by decide +kernel) (zaa (zab 0) (zaa (zcb T.cl_Vouched) zae))) (zaa (za0 .isx (fun _ => zby T.xk) T.fr_isinstance (by decide +kernel) (zaa (zab 0) (zaa (zcb T.cl_NotVouched) zae))) zae))))))
  (zac (zap (i := 1) c.nd (zao (zab 1) (zck (zaa (za0 .isx (fun _ => zby T.xk) T.fr_isinstance (by decide +kernel) (zaa (zab 0) (zaa (zcb T.cl_NotSheer) zae))) (zaa (za0 .isx (fun _ => zby T.xk) T.fr_isinstance (by decide +kernel) (zaa (zab 0) (zaa (zcb T.cl_Clash) zae))) (zaa (za0 .isx (fun _ => zby T.xk) T.fr_isinstance (by decide +kernel) (zaa (zab 0) (zaa (zcb T.cl_NoText) zae))) (zaa (za0 .isx (fun _ => zby T.xk) T.fr_isinstance (by decide +kernel) (zaa (zab 0) (zaa (zcb T.cl_NoBook) zae))) zae)))))))
  (zac (zap (i := 1) c.nd (zao (zab 1) (zck (zaa (za0 .isx (fun _ => zby T.xk) T.fr_isinstance (by decide +kernel) (zaa (zab 0) (zaa (zcb T.cl_NoLevel) zae))) (zaa (za0 .isx (fun _ => zby T.xk) T.fr_isinstance (by decide +kernel) (zaa (zab 0) (zaa (zcb T.cl_NothingDone) zae))) (zaa (za0 .isx (fun _ => zby T.xk) T.fr_isinstance (by decide +kernel) (zaa (zab 0) (zaa (zcb T.cl_NoLine) zae))) zae))))))
  (zac (zat (je_and (je_cmp c.hr.u66 (je_mth .count PySem.F.plainAttrs_list PySem.F.slot_list_count PySem.F.type_list_count (fun _ => (mt_count_ok c.hr.u66)) (zab 1) (zaa je_bl zae)) zaf) (je_and (za0 .isx (fun _ => zby T.xk) T.fr_isinstance (by decide +kernel) (zaa (zab 0) (zaa (zcb T.cl_BookError) zae))) (je_one (za0 .isx (fun _ => zby T.xk) T.fr_isinstance (by decide +kernel) (zaa (zab 0) (zaa (je_ve T.fr_ValueError) zae)))))))
  zah)))))))
theorem jh__law_same (T : Fcts K mg) (G : Fns P w K mg base k) {p : Addr × Obj} (c : CqX (cxP P w K mg base zcw "_law_same" (defScope za4) f cdv A outer s H E p) (fun c d _ H => E c d H) k) :
    JSs (cxP P w K mg base zcw "_law_same" (defScope za4) f cdv A outer s H E p) (fun c d _ H => E c d H) (call tbl k) (defBody za4) F_law_same_hot_2.body :=
  (zac (zcj (jt_val (za0 .isinst (fun _ => zaz) T.fr_isinstance (by decide +kernel) (zaa (zab 1) (zaa (zca (zaa (je_ty .tuple T.fr_tuple (by decide +kernel)) (zaa (je_ty .list T.fr_list (by decide +kernel)) zae))) zae)))) (zac (zcj (za1 c.hr.u66 (za0 .isinst (fun _ => zaz) T.fr_isinstance (by decide +kernel) (zaa (zab 0) (zaa (je_ty .tuple T.fr_tuple (by decide +kernel)) zae))) (za0 .isinst (fun _ => zaz) T.fr_isinstance (by decide +kernel) (zaa (zab 1) (zaa (je_ty .tuple T.fr_tuple (by decide +kernel)) zae)))) (zac (zat je_bl)
  zah) zah)
  (zac (zcj (jt_bool (jw_or (za1 c.hr.u66 (za0 .isinst (fun _ => zaz) T.fr_isinstance (by decide +kernel) (zaa (zab 0) (zaa (je_ty .list T.fr_list (by decide +kernel)) zae))) (za0 .isinst (fun _ => zaz) T.fr_isinstance (by decide +kernel) (zaa (zab 1) (zaa (je_ty .list T.fr_list (by decide +kernel)) zae)))) (jw_or1 (za1 c.hr.u66 (za0 .len (fun _ => bi_len) T.fr_len (by decide +kernel) (zaa (zab 0) zae)) (za0 .len (fun _ => bi_len) T.fr_len (by decide +kernel) (zaa (zab 1) zae)))))) (zac (zat je_bl)
  zah) zah)
  (zac (zat (za0 .all (fun _ => (bi_allH c)) T.fr_all (by decide +kernel) (zaa (je_compH (own := [("_law_one", 2), ("_law_other", 3)]) (is := [2, 3]) (one := .tup) c rfl (ji_zipH T.fr_zip (zaa (zab 0) (zaa (zab 1) zae))) (blkOk_by (own := [("_law_one", 2), ("_law_other", 3)]) (N := zcw) (sc := defScope za4) (by decide +kernel)) (fun sB HB CB clB fpB cB => tg_tupH cB (za2 (i := 2) cB.nd (za2 (i := 3) cB.nd tgs_nil))) (fun sB HB CB clB fpB cB => (je_callH G.h__law_same cB (zaa (zab 2) (zaa (zab 3) zae))))) zae)))
  zah))) zah)
  (zac (zcj (za1 c.hr.u66 (zab 1) je_non) (zac (zat (je_cmp c.hr.u66 (zab 0) je_non))
  zah) zah)
  (zac (zcj (jt_val (za0 .isinst (fun _ => zaz) T.fr_isinstance (by decide +kernel) (zaa (zab 1) (zaa (je_ty .str T.fr_str (by decide +kernel)) zae)))) (zac (zat (je_and (za0 .isinst (fun _ => zaz) T.fr_isinstance (by decide +kernel) (zaa (zab 0) (zaa (je_ty .str T.fr_str (by decide +kernel)) zae))) (je_one (je_cmp c.hr.u66 (zab 0) (zab 1)))))
  zah) zah)
  (zac (zat (je_and (za0 .isinst (fun _ => zaz) T.fr_isinstance (by decide +kernel) (zaa (zab 0) (zaa (je_ty .int T.fr_int (by decide +kernel)) zae))) (je_and (je_cmp c.hr.u66 (za0 .isinst (fun _ => zaz) T.fr_isinstance (by decide +kernel) (zaa (zab 0) (zaa (je_ty .bool T.fr_bool (by decide +kernel)) zae))) (za0 .isinst (fun _ => zaz) T.fr_isinstance (by decide +kernel) (zaa (zab 1) (zaa (je_ty .bool T.fr_bool (by decide +kernel)) zae)))) (je_one (je_cmp c.hr.u66 (zab 0) (zab 1))))))
  zah))))
end
end Sb
set_option maxHeartbeats 0
namespace Sb
theorem bA {a b : Bool} (h : (a && b) = true) : a = true ∧ b = true := Bool.and_eq_true_iff.mp h
open PySem PySem.Spec L2
abbrev LV : Nat := 12
theorem hex_tab {K : PySem.W.Frag} (e : hex K = true) : tabB K ["in_order"] = true := (bA (bA (bA (bA (bA (bA (bA (bA (bA (bA (bA e).1).1).1).1).1).1).1).1).1).1).1
theorem fcts {K : PySem.W.Frag} {h : Heap} {mg : Str → Option Value} (X : K.In h) (G : h.Ns mainGlobals mg) (c : He.SaysD hfa hfn K) (e : hex K = true) : Fcts K mg :=
  ⟨He.free_ok X G (c.fact 42 (f := .free "ValueError") rfl), He.free_ok X G (c.fact 43 (f := .free "abs") rfl), He.free_ok X G (c.fact 44 (f := .free "all") rfl), He.free_ok X G (c.fact 45 (f := .free "bool") rfl), He.free_ok X G (c.fact 46 (f := .free "int") rfl), He.free_ok X G (c.fact 47 (f := .free "isinstance") rfl), He.free_ok X G (c.fact 48 (f := .free "len") rfl), He.free_ok X G (c.fact 49 (f := .free "list") rfl), He.free_ok X G (c.fact 50 (f := .free "min") rfl), He.free_ok X G (c.fact 51 (f := .free "range") rfl), He.free_ok X G (c.fact 52 (f := .free "sorted") rfl), He.free_ok X G (c.fact 53 (f := .free "str") rfl), He.free_ok X G (c.fact 54 (f := .free "tuple") rfl), He.free_ok X G (c.fact 55 (f := .free "zip") rfl), conB_ok X G (bA (bA (bA (bA (bA (bA (bA (bA (bA (bA (bA e).1).1).1).1).1).1).1).1).1).1).2, conB_ok X G (bA (bA (bA (bA (bA (bA (bA (bA (bA (bA e).1).1).1).1).1).1).1).1).1).2, hdB_ok X G (bA (bA (bA (bA e).1).1).1).2, xfB_ok (bA (bA (bA e).1).1).2, (xcB_ok X G (bA (bA (bA (bA (bA e).1).1).1).1).2).2.2.2.2, He.glo_ok X G (c.fact 56 (f := .glo "BadName") rfl), He.glo_ok X G (c.fact 57 (f := .glo "BadWeight") rfl), He.glo_ok X G (c.fact 58 (f := .glo "BookError") rfl), He.glo_ok X G (c.fact 59 (f := .glo "Clash") rfl), He.glo_ok X G (c.fact 60 (f := .glo "Far") rfl), He.glo_ok X G (c.fact 61 (f := .glo "Flat") rfl), He.glo_ok X G (c.fact 62 (f := .glo "Full") rfl), He.glo_ok X G (c.fact 63 (f := .glo "InUse") rfl), He.glo_ok X G (c.fact 64 (f := .glo "NoBook") rfl), He.glo_ok X G (c.fact 65 (f := .glo "NoBottom") rfl), He.glo_ok X G (c.fact 66 (f := .glo "NoLevel") rfl), He.glo_ok X G (c.fact 67 (f := .glo "NoLine") rfl), He.glo_ok X G (c.fact 68 (f := .glo "NoSuch") rfl), He.glo_ok X G (c.fact 69 (f := .glo "NoTelling") rfl), He.glo_ok X G (c.fact 70 (f := .glo "NoText") rfl), He.glo_ok X G (c.fact 71 (f := .glo "NoTie") rfl), He.glo_ok X G (c.fact 72 (f := .glo "NotJoined") rfl), He.glo_ok X G (c.fact 73 (f := .glo "NotSheer") rfl), He.glo_ok X G (c.fact 74 (f := .glo "NotVouched") rfl), He.glo_ok X G (c.fact 75 (f := .glo "NothingDone") rfl), He.glo_ok X G (c.fact 76 (f := .glo "SameScale") rfl), He.glo_ok X G (c.fact 77 (f := .glo "Taken") rfl), He.glo_ok X G (c.fact 78 (f := .glo "Vouched") rfl), hdJ_ok X G (bA (bA e).1).2, xkB_ok (bA e).2⟩
theorem all_ok {P : Program} {w : World} {K : PySem.W.Frag} {h base : Heap} {mg : Str → Option Value} (X : K.In h) (Gh : h.Ns mainGlobals mg) (c : He.SaysD hfa hfn K) (e : hex K = true) (D : tbsU hts K = keyU hts w) (TB : ∀ p ∈ tabCs K, LamX.TabB base mg p.1 p.2) : ∀ k, Fns P w K mg base k := by
  have T := fcts X Gh c e
  obtain ⟨fd_common, FD_common⟩ := c.def_ 0 (d := d_common) rfl
  obtain ⟨fd_fraction_of, FD_fraction_of⟩ := c.def_ 1 (d := d_fraction_of) rfl
  obtain ⟨fd_plus_of, FD_plus_of⟩ := c.def_ 2 (d := d_plus_of) rfl
  obtain ⟨fd_less_of, FD_less_of⟩ := c.def_ 3 (d := d_less_of) rfl
  obtain ⟨fd_times_of, FD_times_of⟩ := c.def_ 4 (d := d_times_of) rfl
  obtain ⟨fd_over_of, FD_over_of⟩ := c.def_ 5 (d := d_over_of) rfl
  obtain ⟨fd_stretch_by, FD_stretch_by⟩ := c.def_ 6 (d := d_stretch_by) rfl
  obtain ⟨fd_read_by, FD_read_by⟩ := c.def_ 7 (d := d_read_by) rfl
  obtain ⟨fd_move_then, FD_move_then⟩ := c.def_ 8 (d := d_move_then) rfl
  obtain ⟨fd_move_back, FD_move_back⟩ := c.def_ 9 (d := d_move_back) rfl
  obtain ⟨fd_in_order, FD_in_order⟩ := c.def_ 10 (d := d_in_order) rfl
  obtain ⟨fd_order_of, FD_order_of⟩ := c.def_ 11 (d := d_order_of) rfl
  obtain ⟨fd_named, FD_named⟩ := c.def_ 12 (d := d_named) rfl
  obtain ⟨fd_tie_rows, FD_tie_rows⟩ := c.def_ 13 (d := d_tie_rows) rfl
  obtain ⟨fd_ties_of, FD_ties_of⟩ := c.def_ 14 (d := d_ties_of) rfl
  obtain ⟨fd_steps_from, FD_steps_from⟩ := c.def_ 15 (d := d_steps_from) rfl
  obtain ⟨fd_roads_among, FD_roads_among⟩ := c.def_ 16 (d := d_roads_among) rfl
  obtain ⟨fd_road_among, FD_road_among⟩ := c.def_ 17 (d := d_road_among) rfl
  obtain ⟨fd_reach_among, FD_reach_among⟩ := c.def_ 18 (d := d_reach_among) rfl
  obtain ⟨fd_road_of, FD_road_of⟩ := c.def_ 19 (d := d_road_of) rfl
  obtain ⟨fd_chain_move, FD_chain_move⟩ := c.def_ 20 (d := d_chain_move) rfl
  obtain ⟨fd_heir_of, FD_heir_of⟩ := c.def_ 21 (d := d_heir_of) rfl
  obtain ⟨fd_bars_of, FD_bars_of⟩ := c.def_ 22 (d := d_bars_of) rfl
  obtain ⟨fd_words_of, FD_words_of⟩ := c.def_ 23 (d := d_words_of) rfl
  obtain ⟨fd__law_start, FD__law_start⟩ := c.def_ 24 (d := d__law_start) rfl
  obtain ⟨fd__law_draw, FD__law_draw⟩ := c.def_ 25 (d := d__law_draw) rfl
  obtain ⟨fd__law_mix, FD__law_mix⟩ := c.def_ 26 (d := d__law_mix) rfl
  obtain ⟨fd__law_whole, FD__law_whole⟩ := c.def_ 27 (d := d__law_whole) rfl
  obtain ⟨fd__law_same, FD__law_same⟩ := c.def_ 28 (d := d__law_same) rfl
  obtain ⟨fd__law_lowest, FD__law_lowest⟩ := c.def_ 29 (d := d__law_lowest) rfl
  obtain ⟨fd__law_plus, FD__law_plus⟩ := c.def_ 30 (d := d__law_plus) rfl
  obtain ⟨fd__law_times, FD__law_times⟩ := c.def_ 31 (d := d__law_times) rfl
  obtain ⟨fd__law_led, FD__law_led⟩ := c.def_ 32 (d := d__law_led) rfl
  obtain ⟨fd__law_then, FD__law_then⟩ := c.def_ 33 (d := d__law_then) rfl
  obtain ⟨fd__law_back, FD__law_back⟩ := c.def_ 34 (d := d__law_back) rfl
  obtain ⟨fd__law_names, FD__law_names⟩ := c.def_ 35 (d := d__law_names) rfl
  obtain ⟨fd__law_world, FD__law_world⟩ := c.def_ 36 (d := d__law_world) rfl
  obtain ⟨fd__law_tellings, FD__law_tellings⟩ := c.def_ 37 (d := d__law_tellings) rfl
  obtain ⟨fd__law_apart, FD__law_apart⟩ := c.def_ 38 (d := d__law_apart) rfl
  obtain ⟨fd__law_heir, FD__law_heir⟩ := c.def_ 39 (d := d__law_heir) rfl
  obtain ⟨fd_law, FD_law⟩ := c.def_ 40 (d := d_law) rfl
  obtain ⟨fd__law_alone, FD__law_alone⟩ := c.def_ 41 (d := d__law_alone) rfl
  obtain ⟨fx_NoBottom, FX_NoBottom⟩ := c.def_ 42 (d := d_NoBottom_init) rfl
  obtain ⟨fx_NoTelling, FX_NoTelling⟩ := c.def_ 43 (d := d_NoTelling_init) rfl
  obtain ⟨fx_NoTie, FX_NoTie⟩ := c.def_ 44 (d := d_NoTie_init) rfl
  obtain ⟨fx_NotJoined, FX_NotJoined⟩ := c.def_ 45 (d := d_NotJoined_init) rfl
  have z_NoBottom := xcB_ok X Gh (bA (bA (bA (bA (bA (bA (bA (bA e).1).1).1).1).1).1).1).2
  have xc_NoBottom : XcI P w K mg base "NoBottom" ["top"] := ⟨z_NoBottom.1, z_NoBottom.2.1, _, fx_NoBottom, ["self", "top"], z_NoBottom.2.2.1, z_NoBottom.2.2.2.1, init1 FX_NoBottom sc_NoBottom_init z_NoBottom.1 (z_NoBottom.2.2.2.2 _ (by simp)) (in_NoBottom (bkB_ok X Gh (bA (bA (bA (bA (bA (bA (bA (bA (bA e).1).1).1).1).1).1).1).1).2)), FX_NoBottom.bindsN (fun _ _ _ _ _ _ us hl => match us, hl with | [_, _], _ => rfl)⟩
  have z_NoTelling := xcB_ok X Gh (bA (bA (bA (bA (bA (bA (bA e).1).1).1).1).1).1).2
  have xc_NoTelling : XcI P w K mg base "NoTelling" ["name"] := ⟨z_NoTelling.1, z_NoTelling.2.1, _, fx_NoTelling, ["self", "name"], z_NoTelling.2.2.1, z_NoTelling.2.2.2.1, init1 FX_NoTelling sc_NoTelling_init z_NoTelling.1 (z_NoTelling.2.2.2.2 _ (by simp)) (in_NoTelling (bkB_ok X Gh (bA (bA (bA (bA (bA (bA (bA (bA (bA e).1).1).1).1).1).1).1).1).2)), FX_NoTelling.bindsN (fun _ _ _ _ _ _ us hl => match us, hl with | [_, _], _ => rfl)⟩
  have z_NoTie := xcB_ok X Gh (bA (bA (bA (bA (bA (bA e).1).1).1).1).1).2
  have xc_NoTie : XcI P w K mg base "NoTie" ["name"] := ⟨z_NoTie.1, z_NoTie.2.1, _, fx_NoTie, ["self", "name"], z_NoTie.2.2.1, z_NoTie.2.2.2.1, init1 FX_NoTie sc_NoTie_init z_NoTie.1 (z_NoTie.2.2.2.2 _ (by simp)) (in_NoTie (bkB_ok X Gh (bA (bA (bA (bA (bA (bA (bA (bA (bA e).1).1).1).1).1).1).1).1).2)), FX_NoTie.bindsN (fun _ _ _ _ _ _ us hl => match us, hl with | [_, _], _ => rfl)⟩
  have z_NotJoined := xcB_ok X Gh (bA (bA (bA (bA (bA e).1).1).1).1).2
  have xc_NotJoined : XcI P w K mg base "NotJoined" ["start", "end"] := ⟨z_NotJoined.1, z_NotJoined.2.1, _, fx_NotJoined, ["self", "start", "end"], z_NotJoined.2.2.1, z_NotJoined.2.2.2.1, init2 FX_NotJoined sc_NotJoined_init z_NotJoined.1 (z_NotJoined.2.2.2.2 _ (by simp)) (z_NotJoined.2.2.2.2 _ (by simp)) (in_NotJoined (bkB_ok X Gh (bA (bA (bA (bA (bA (bA (bA (bA (bA e).1).1).1).1).1).1).1).1).2)), FX_NotJoined.bindsN (fun _ _ _ _ _ _ us hl => match us, hl with | [_, _, _], _ => rfl)⟩
  intro k
  induction k with
  | zero => exact ⟨⟨He.ga K "common", fd_common, ["one", "other"], rfl, zau, He.glo_ok X Gh (c.fact 0 (f := .glo "common") rfl), FD_common.kp, FD_common.bindsN (fun _ _ _ _ _ _ us hl => match us, hl with | [_, _], _ => rfl)⟩,
    ⟨He.ga K "fraction_of", fd_fraction_of, ["top", "bottom"], rfl, zau, He.glo_ok X Gh (c.fact 1 (f := .glo "fraction_of") rfl), FD_fraction_of.kp, binds_full FD_fraction_of (List.cons_ne_nil _ _) (fun _ _ _ _ _ _ _ us its hl hi => match us, hl, its, hi with | [_, _], _, [_], _ => ⟨_, rfl, rfl⟩)⟩,
    ⟨He.ga K "plus_of", fd_plus_of, ["one", "other"], rfl, zau, He.glo_ok X Gh (c.fact 2 (f := .glo "plus_of") rfl), FD_plus_of.kp, FD_plus_of.bindsN (fun _ _ _ _ _ _ us hl => match us, hl with | [_, _], _ => rfl)⟩,
    ⟨He.ga K "less_of", fd_less_of, ["one", "other"], rfl, zau, He.glo_ok X Gh (c.fact 3 (f := .glo "less_of") rfl), FD_less_of.kp, FD_less_of.bindsN (fun _ _ _ _ _ _ us hl => match us, hl with | [_, _], _ => rfl)⟩,
    ⟨He.ga K "times_of", fd_times_of, ["one", "other"], rfl, zau, He.glo_ok X Gh (c.fact 4 (f := .glo "times_of") rfl), FD_times_of.kp, FD_times_of.bindsN (fun _ _ _ _ _ _ us hl => match us, hl with | [_, _], _ => rfl)⟩,
    ⟨He.ga K "over_of", fd_over_of, ["one", "other"], rfl, zau, He.glo_ok X Gh (c.fact 5 (f := .glo "over_of") rfl), FD_over_of.kp, FD_over_of.bindsN (fun _ _ _ _ _ _ us hl => match us, hl with | [_, _], _ => rfl)⟩,
    ⟨He.ga K "stretch_by", fd_stretch_by, ["move", "value"], rfl, zau, He.glo_ok X Gh (c.fact 6 (f := .glo "stretch_by") rfl), FD_stretch_by.kp, FD_stretch_by.bindsN (fun _ _ _ _ _ _ us hl => match us, hl with | [_, _], _ => rfl)⟩,
    ⟨He.ga K "read_by", fd_read_by, ["move", "value"], rfl, zau, He.glo_ok X Gh (c.fact 7 (f := .glo "read_by") rfl), FD_read_by.kp, FD_read_by.bindsN (fun _ _ _ _ _ _ us hl => match us, hl with | [_, _], _ => rfl)⟩,
    ⟨He.ga K "move_then", fd_move_then, ["one", "other"], rfl, zau, He.glo_ok X Gh (c.fact 8 (f := .glo "move_then") rfl), FD_move_then.kp, FD_move_then.bindsN (fun _ _ _ _ _ _ us hl => match us, hl with | [_, _], _ => rfl)⟩,
    ⟨He.ga K "move_back", fd_move_back, ["move"], rfl, zau, He.glo_ok X Gh (c.fact 9 (f := .glo "move_back") rfl), FD_move_back.kp, FD_move_back.bindsN (fun _ _ _ _ _ _ us hl => match us, hl with | [_], _ => rfl)⟩,
    ⟨He.ga K "in_order", fd_in_order, ["tellings"], rfl, zau, He.glo_ok X Gh (c.fact 10 (f := .glo "in_order") rfl), FD_in_order.kp, FD_in_order.bindsN (fun _ _ _ _ _ _ us hl => match us, hl with | [_], _ => rfl)⟩,
    ⟨He.ga K "order_of", fd_order_of, ["tellings"], rfl, zau, He.glo_ok X Gh (c.fact 11 (f := .glo "order_of") rfl), FD_order_of.kp, FD_order_of.bindsN (fun _ _ _ _ _ _ us hl => match us, hl with | [_], _ => rfl)⟩,
    ⟨He.ga K "named", fd_named, ["tellings", "name"], rfl, zau, He.glo_ok X Gh (c.fact 12 (f := .glo "named") rfl), FD_named.kp, FD_named.bindsN (fun _ _ _ _ _ _ us hl => match us, hl with | [_, _], _ => rfl)⟩,
    ⟨He.ga K "tie_rows", fd_tie_rows, ["tellings"], rfl, zau, He.glo_ok X Gh (c.fact 13 (f := .glo "tie_rows") rfl), FD_tie_rows.kp, FD_tie_rows.bindsN (fun _ _ _ _ _ _ us hl => match us, hl with | [_], _ => rfl)⟩,
    ⟨He.ga K "ties_of", fd_ties_of, ["tellings"], rfl, zau, He.glo_ok X Gh (c.fact 14 (f := .glo "ties_of") rfl), FD_ties_of.kp, FD_ties_of.bindsN (fun _ _ _ _ _ _ us hl => match us, hl with | [_], _ => rfl)⟩,
    ⟨He.ga K "steps_from", fd_steps_from, ["rows", "scale"], rfl, zau, He.glo_ok X Gh (c.fact 15 (f := .glo "steps_from") rfl), FD_steps_from.kp, FD_steps_from.bindsN (fun _ _ _ _ _ _ us hl => match us, hl with | [_, _], _ => rfl)⟩,
    ⟨He.ga K "roads_among", fd_roads_among, ["rows", "start"], rfl, zau, He.glo_ok X Gh (c.fact 16 (f := .glo "roads_among") rfl), FD_roads_among.kp, FD_roads_among.bindsN (fun _ _ _ _ _ _ us hl => match us, hl with | [_, _], _ => rfl)⟩,
    ⟨He.ga K "road_among", fd_road_among, ["rows", "start", "end"], rfl, zau, He.glo_ok X Gh (c.fact 17 (f := .glo "road_among") rfl), FD_road_among.kp, FD_road_among.bindsN (fun _ _ _ _ _ _ us hl => match us, hl with | [_, _, _], _ => rfl)⟩,
    ⟨He.ga K "reach_among", fd_reach_among, ["rows", "start"], rfl, zau, He.glo_ok X Gh (c.fact 18 (f := .glo "reach_among") rfl), FD_reach_among.kp, FD_reach_among.bindsN (fun _ _ _ _ _ _ us hl => match us, hl with | [_, _], _ => rfl)⟩,
    ⟨He.ga K "road_of", fd_road_of, ["tellings", "start", "end"], rfl, zau, He.glo_ok X Gh (c.fact 19 (f := .glo "road_of") rfl), FD_road_of.kp, FD_road_of.bindsN (fun _ _ _ _ _ _ us hl => match us, hl with | [_, _, _], _ => rfl)⟩,
    ⟨He.ga K "chain_move", fd_chain_move, ["tellings", "chain"], rfl, zau, He.glo_ok X Gh (c.fact 20 (f := .glo "chain_move") rfl), FD_chain_move.kp, FD_chain_move.bindsN (fun _ _ _ _ _ _ us hl => match us, hl with | [_, _], _ => rfl)⟩,
    ⟨He.ga K "heir_of", fd_heir_of, ["tellings", "name"], rfl, zau, He.glo_ok X Gh (c.fact 21 (f := .glo "heir_of") rfl), FD_heir_of.kp, FD_heir_of.bindsN (fun _ _ _ _ _ _ us hl => match us, hl with | [_, _], _ => rfl)⟩,
    ⟨He.ga K "bars_of", fd_bars_of, ["tellings"], rfl, zau, He.glo_ok X Gh (c.fact 22 (f := .glo "bars_of") rfl), FD_bars_of.kp, FD_bars_of.bindsN (fun _ _ _ _ _ _ us hl => match us, hl with | [_], _ => rfl)⟩,
    ⟨He.ga K "words_of", fd_words_of, ["tellings"], rfl, zau, He.glo_ok X Gh (c.fact 23 (f := .glo "words_of") rfl), FD_words_of.kp, FD_words_of.bindsN (fun _ _ _ _ _ _ us hl => match us, hl with | [_], _ => rfl)⟩,
    ⟨He.ga K "_law_start", fd__law_start, ["_law_script"], rfl, zau, He.glo_ok X Gh (c.fact 24 (f := .glo "_law_start") rfl), FD__law_start.kp, FD__law_start.bindsN (fun _ _ _ _ _ _ us hl => match us, hl with | [_], _ => rfl)⟩,
    ⟨He.ga K "_law_draw", fd__law_draw, ["_law_state", "_law_many"], rfl, zau, He.glo_ok X Gh (c.fact 25 (f := .glo "_law_draw") rfl), FD__law_draw.kp, FD__law_draw.bindsN (fun _ _ _ _ _ _ us hl => match us, hl with | [_, _], _ => rfl)⟩,
    ⟨He.ga K "_law_mix", fd__law_mix, ["_law_state"], rfl, zau, He.glo_ok X Gh (c.fact 26 (f := .glo "_law_mix") rfl), FD__law_mix.kp, FD__law_mix.bindsN (fun _ _ _ _ _ _ us hl => match us, hl with | [_], _ => rfl)⟩,
    ⟨He.ga K "_law_whole", fd__law_whole, ["_law_thing"], rfl, zau, He.glo_ok X Gh (c.fact 27 (f := .glo "_law_whole") rfl), FD__law_whole.kp, FD__law_whole.bindsN (fun _ _ _ _ _ _ us hl => match us, hl with | [_], _ => rfl)⟩,
    ⟨He.ga K "_law_same", fd__law_same, ["_law_found", "_law_want"], rfl, zau, He.glo_ok X Gh (c.fact 28 (f := .glo "_law_same") rfl), FD__law_same.kp, FD__law_same.bindsN (fun _ _ _ _ _ _ us hl => match us, hl with | [_, _], _ => rfl)⟩,
    ⟨He.ga K "_law_lowest", fd__law_lowest, ["_law_top", "_law_bottom"], rfl, zau, He.glo_ok X Gh (c.fact 29 (f := .glo "_law_lowest") rfl), FD__law_lowest.kp, FD__law_lowest.bindsN (fun _ _ _ _ _ _ us hl => match us, hl with | [_, _], _ => rfl)⟩,
    ⟨He.ga K "_law_plus", fd__law_plus, ["_law_one", "_law_other"], rfl, zau, He.glo_ok X Gh (c.fact 30 (f := .glo "_law_plus") rfl), FD__law_plus.kp, FD__law_plus.bindsN (fun _ _ _ _ _ _ us hl => match us, hl with | [_, _], _ => rfl)⟩,
    ⟨He.ga K "_law_times", fd__law_times, ["_law_one", "_law_other"], rfl, zau, He.glo_ok X Gh (c.fact 31 (f := .glo "_law_times") rfl), FD__law_times.kp, FD__law_times.bindsN (fun _ _ _ _ _ _ us hl => match us, hl with | [_, _], _ => rfl)⟩,
    ⟨He.ga K "_law_led", fd__law_led, ["_law_move", "_law_value"], rfl, zau, He.glo_ok X Gh (c.fact 32 (f := .glo "_law_led") rfl), FD__law_led.kp, FD__law_led.bindsN (fun _ _ _ _ _ _ us hl => match us, hl with | [_, _], _ => rfl)⟩,
    ⟨He.ga K "_law_then", fd__law_then, ["_law_one", "_law_other"], rfl, zau, He.glo_ok X Gh (c.fact 33 (f := .glo "_law_then") rfl), FD__law_then.kp, FD__law_then.bindsN (fun _ _ _ _ _ _ us hl => match us, hl with | [_, _], _ => rfl)⟩,
    ⟨He.ga K "_law_back", fd__law_back, ["_law_move"], rfl, zau, He.glo_ok X Gh (c.fact 34 (f := .glo "_law_back") rfl), FD__law_back.kp, FD__law_back.bindsN (fun _ _ _ _ _ _ us hl => match us, hl with | [_], _ => rfl)⟩,
    ⟨He.ga K "_law_names", fd__law_names, ["_law_state", "_law_many"], rfl, zau, He.glo_ok X Gh (c.fact 35 (f := .glo "_law_names") rfl), FD__law_names.kp, FD__law_names.bindsN (fun _ _ _ _ _ _ us hl => match us, hl with | [_, _], _ => rfl)⟩,
    ⟨He.ga K "_law_world", fd__law_world, ["_law_state", "_law_scales"], rfl, zau, He.glo_ok X Gh (c.fact 36 (f := .glo "_law_world") rfl), FD__law_world.kp, FD__law_world.bindsN (fun _ _ _ _ _ _ us hl => match us, hl with | [_, _], _ => rfl)⟩,
    ⟨He.ga K "_law_tellings", fd__law_tellings, ["_law_state", "_law_scales", "_law_many"], rfl, zau, He.glo_ok X Gh (c.fact 37 (f := .glo "_law_tellings") rfl), FD__law_tellings.kp, FD__law_tellings.bindsN (fun _ _ _ _ _ _ us hl => match us, hl with | [_, _, _], _ => rfl)⟩,
    ⟨He.ga K "_law_apart", fd__law_apart, ["_law_tellings_here", "_law_start_here", "_law_end"], rfl, zau, He.glo_ok X Gh (c.fact 38 (f := .glo "_law_apart") rfl), FD__law_apart.kp, FD__law_apart.bindsN (fun _ _ _ _ _ _ us hl => match us, hl with | [_, _, _], _ => rfl)⟩,
    ⟨He.ga K "_law_heir", fd__law_heir, ["_law_tellings_here", "_law_name"], rfl, zau, He.glo_ok X Gh (c.fact 39 (f := .glo "_law_heir") rfl), FD__law_heir.kp, FD__law_heir.bindsN (fun _ _ _ _ _ _ us hl => match us, hl with | [_, _], _ => rfl)⟩,
    ⟨He.ga K "law", fd_law, ["_law_script"], rfl, zau, He.glo_ok X Gh (c.fact 40 (f := .glo "law") rfl), FD_law.kp, FD_law.bindsN (fun _ _ _ _ _ _ us hl => match us, hl with | [_], _ => rfl)⟩,
    ⟨⟨He.ga K "_law_alone", fd__law_alone, ["_law_e"], rfl, fnH_zero, He.glo_ok X Gh (c.fact 41 (f := .glo "_law_alone") rfl), FD__law_alone.kp, FD__law_alone.bindsN (fun _ _ _ _ _ _ us hl => match us, hl with | [_], _ => rfl)⟩⟩,
    ⟨⟨He.ga K "_law_same", fd__law_same, ["_law_found", "_law_want"], rfl, fnH_zero, He.glo_ok X Gh (c.fact 28 (f := .glo "_law_same") rfl), FD__law_same.kp, FD__law_same.bindsN (fun _ _ _ _ _ _ us hl => match us, hl with | [_, _], _ => rfl)⟩⟩,
    xc_NoBottom,
    xc_NoTelling,
    xc_NoTie,
    xc_NotJoined⟩
  | succ k G => exact ⟨⟨He.ga K "common", fd_common, ["one", "other"], rfl, zbe (tbl := tbl) (fi := 0) FD_common sc_common rfl rfl (fun _ _ _ _ _ _ _ cq => jb_common T G cq), He.glo_ok X Gh (c.fact 0 (f := .glo "common") rfl), FD_common.kp, FD_common.bindsN (fun _ _ _ _ _ _ us hl => match us, hl with | [_, _], _ => rfl)⟩,
    ⟨He.ga K "fraction_of", fd_fraction_of, ["top", "bottom"], rfl, zbe (tbl := tbl) (fi := 15) FD_fraction_of sc_fraction_of rfl rfl (fun _ _ _ _ _ _ _ cq => jb_fraction_of T G cq), He.glo_ok X Gh (c.fact 1 (f := .glo "fraction_of") rfl), FD_fraction_of.kp, binds_full FD_fraction_of (List.cons_ne_nil _ _) (fun _ _ _ _ _ _ _ us its hl hi => match us, hl, its, hi with | [_, _], _, [_], _ => ⟨_, rfl, rfl⟩)⟩,
    ⟨He.ga K "plus_of", fd_plus_of, ["one", "other"], rfl, zbe (tbl := tbl) (fi := 16) FD_plus_of sc_plus_of rfl rfl (fun _ _ _ _ _ _ _ cq => jb_plus_of T G cq), He.glo_ok X Gh (c.fact 2 (f := .glo "plus_of") rfl), FD_plus_of.kp, FD_plus_of.bindsN (fun _ _ _ _ _ _ us hl => match us, hl with | [_, _], _ => rfl)⟩,
    ⟨He.ga K "less_of", fd_less_of, ["one", "other"], rfl, zbe (tbl := tbl) (fi := 17) FD_less_of sc_less_of rfl rfl (fun _ _ _ _ _ _ _ cq => jb_less_of T G cq), He.glo_ok X Gh (c.fact 3 (f := .glo "less_of") rfl), FD_less_of.kp, FD_less_of.bindsN (fun _ _ _ _ _ _ us hl => match us, hl with | [_, _], _ => rfl)⟩,
    ⟨He.ga K "times_of", fd_times_of, ["one", "other"], rfl, zbe (tbl := tbl) (fi := 18) FD_times_of sc_times_of rfl rfl (fun _ _ _ _ _ _ _ cq => jb_times_of T G cq), He.glo_ok X Gh (c.fact 4 (f := .glo "times_of") rfl), FD_times_of.kp, FD_times_of.bindsN (fun _ _ _ _ _ _ us hl => match us, hl with | [_, _], _ => rfl)⟩,
    ⟨He.ga K "over_of", fd_over_of, ["one", "other"], rfl, zbe (tbl := tbl) (fi := 19) FD_over_of sc_over_of rfl rfl (fun _ _ _ _ _ _ _ cq => jb_over_of T G cq), He.glo_ok X Gh (c.fact 5 (f := .glo "over_of") rfl), FD_over_of.kp, FD_over_of.bindsN (fun _ _ _ _ _ _ us hl => match us, hl with | [_, _], _ => rfl)⟩,
    ⟨He.ga K "stretch_by", fd_stretch_by, ["move", "value"], rfl, zbe (tbl := tbl) (fi := 20) FD_stretch_by sc_stretch_by rfl rfl (fun _ _ _ _ _ _ _ cq => jb_stretch_by T G cq), He.glo_ok X Gh (c.fact 6 (f := .glo "stretch_by") rfl), FD_stretch_by.kp, FD_stretch_by.bindsN (fun _ _ _ _ _ _ us hl => match us, hl with | [_, _], _ => rfl)⟩,
    ⟨He.ga K "read_by", fd_read_by, ["move", "value"], rfl, zbe (tbl := tbl) (fi := 21) FD_read_by sc_read_by rfl rfl (fun _ _ _ _ _ _ _ cq => jb_read_by T G cq), He.glo_ok X Gh (c.fact 7 (f := .glo "read_by") rfl), FD_read_by.kp, FD_read_by.bindsN (fun _ _ _ _ _ _ us hl => match us, hl with | [_, _], _ => rfl)⟩,
    ⟨He.ga K "move_then", fd_move_then, ["one", "other"], rfl, zbe (tbl := tbl) (fi := 22) FD_move_then sc_move_then rfl rfl (fun _ _ _ _ _ _ _ cq => jb_move_then T G cq), He.glo_ok X Gh (c.fact 8 (f := .glo "move_then") rfl), FD_move_then.kp, FD_move_then.bindsN (fun _ _ _ _ _ _ us hl => match us, hl with | [_, _], _ => rfl)⟩,
    ⟨He.ga K "move_back", fd_move_back, ["move"], rfl, zbe (tbl := tbl) (fi := 23) FD_move_back sc_move_back rfl rfl (fun _ _ _ _ _ _ _ cq => jb_move_back T G cq), He.glo_ok X Gh (c.fact 9 (f := .glo "move_back") rfl), FD_move_back.kp, FD_move_back.bindsN (fun _ _ _ _ _ _ us hl => match us, hl with | [_], _ => rfl)⟩,
    ⟨He.ga K "in_order", fd_in_order, ["tellings"], rfl, zbe (tbl := tbl) (fi := 32) FD_in_order sc_in_order rfl rfl (fun _ _ _ _ _ _ hcd cq => by
      obtain ⟨cc, PP, tb⟩ := tbI_of (h := h) (N := N_in_order) (hex_tab e) (x := "in_order") (by decide) (by decide) FD_in_order (c.fact 10 (f := .glo "in_order") rfl) hcd TB
      exact jb_in_order T G tb cq), He.glo_ok X Gh (c.fact 10 (f := .glo "in_order") rfl), FD_in_order.kp, FD_in_order.bindsN (fun _ _ _ _ _ _ us hl => match us, hl with | [_], _ => rfl)⟩,
    ⟨He.ga K "order_of", fd_order_of, ["tellings"], rfl, zbe (tbl := tbl) (fi := 33) FD_order_of sc_order_of rfl rfl (fun _ _ _ _ _ _ _ cq => jb_order_of T G cq), He.glo_ok X Gh (c.fact 11 (f := .glo "order_of") rfl), FD_order_of.kp, FD_order_of.bindsN (fun _ _ _ _ _ _ us hl => match us, hl with | [_], _ => rfl)⟩,
    ⟨He.ga K "named", fd_named, ["tellings", "name"], rfl, zbe (tbl := tbl) (fi := 51) FD_named sc_named rfl rfl (fun _ _ _ _ _ _ _ cq => jb_named T G cq), He.glo_ok X Gh (c.fact 12 (f := .glo "named") rfl), FD_named.kp, FD_named.bindsN (fun _ _ _ _ _ _ us hl => match us, hl with | [_, _], _ => rfl)⟩,
    ⟨He.ga K "tie_rows", fd_tie_rows, ["tellings"], rfl, zbe (tbl := tbl) (fi := 39) FD_tie_rows sc_tie_rows rfl rfl (fun _ _ _ _ _ _ _ cq => jb_tie_rows T G cq), He.glo_ok X Gh (c.fact 13 (f := .glo "tie_rows") rfl), FD_tie_rows.kp, FD_tie_rows.bindsN (fun _ _ _ _ _ _ us hl => match us, hl with | [_], _ => rfl)⟩,
    ⟨He.ga K "ties_of", fd_ties_of, ["tellings"], rfl, zbe (tbl := tbl) (fi := 56) FD_ties_of sc_ties_of rfl rfl (fun _ _ _ _ _ _ _ cq => jb_ties_of T G cq), He.glo_ok X Gh (c.fact 14 (f := .glo "ties_of") rfl), FD_ties_of.kp, FD_ties_of.bindsN (fun _ _ _ _ _ _ us hl => match us, hl with | [_], _ => rfl)⟩,
    ⟨He.ga K "steps_from", fd_steps_from, ["rows", "scale"], rfl, zbe (tbl := tbl) (fi := 40) FD_steps_from sc_steps_from rfl rfl (fun _ _ _ _ _ _ _ cq => jb_steps_from T G cq), He.glo_ok X Gh (c.fact 15 (f := .glo "steps_from") rfl), FD_steps_from.kp, FD_steps_from.bindsN (fun _ _ _ _ _ _ us hl => match us, hl with | [_, _], _ => rfl)⟩,
    ⟨He.ga K "roads_among", fd_roads_among, ["rows", "start"], rfl, zbe (tbl := tbl) (fi := 41) FD_roads_among sc_roads_among rfl rfl (fun _ _ _ _ _ _ _ cq => jb_roads_among T G cq), He.glo_ok X Gh (c.fact 16 (f := .glo "roads_among") rfl), FD_roads_among.kp, FD_roads_among.bindsN (fun _ _ _ _ _ _ us hl => match us, hl with | [_, _], _ => rfl)⟩,
    ⟨He.ga K "road_among", fd_road_among, ["rows", "start", "end"], rfl, zbe (tbl := tbl) (fi := 42) FD_road_among sc_road_among rfl rfl (fun _ _ _ _ _ _ _ cq => jb_road_among T G cq), He.glo_ok X Gh (c.fact 17 (f := .glo "road_among") rfl), FD_road_among.kp, FD_road_among.bindsN (fun _ _ _ _ _ _ us hl => match us, hl with | [_, _, _], _ => rfl)⟩,
    ⟨He.ga K "reach_among", fd_reach_among, ["rows", "start"], rfl, zbe (tbl := tbl) (fi := 89) FD_reach_among sc_reach_among rfl rfl (fun _ _ _ _ _ _ _ cq => jb_reach_among T G cq), He.glo_ok X Gh (c.fact 18 (f := .glo "reach_among") rfl), FD_reach_among.kp, FD_reach_among.bindsN (fun _ _ _ _ _ _ us hl => match us, hl with | [_, _], _ => rfl)⟩,
    ⟨He.ga K "road_of", fd_road_of, ["tellings", "start", "end"], rfl, zbe (tbl := tbl) (fi := 43) FD_road_of sc_road_of rfl rfl (fun _ _ _ _ _ _ _ cq => jb_road_of T G cq), He.glo_ok X Gh (c.fact 19 (f := .glo "road_of") rfl), FD_road_of.kp, FD_road_of.bindsN (fun _ _ _ _ _ _ us hl => match us, hl with | [_, _, _], _ => rfl)⟩,
    ⟨He.ga K "chain_move", fd_chain_move, ["tellings", "chain"], rfl, zbe (tbl := tbl) (fi := 44) FD_chain_move sc_chain_move rfl rfl (fun _ _ _ _ _ _ _ cq => jb_chain_move T G cq), He.glo_ok X Gh (c.fact 20 (f := .glo "chain_move") rfl), FD_chain_move.kp, FD_chain_move.bindsN (fun _ _ _ _ _ _ us hl => match us, hl with | [_, _], _ => rfl)⟩,
    ⟨He.ga K "heir_of", fd_heir_of, ["tellings", "name"], rfl, zbe (tbl := tbl) (fi := 90) FD_heir_of sc_heir_of rfl rfl (fun _ _ _ _ _ _ _ cq => jb_heir_of T G cq), He.glo_ok X Gh (c.fact 21 (f := .glo "heir_of") rfl), FD_heir_of.kp, FD_heir_of.bindsN (fun _ _ _ _ _ _ us hl => match us, hl with | [_, _], _ => rfl)⟩,
    ⟨He.ga K "bars_of", fd_bars_of, ["tellings"], rfl, zbe (tbl := tbl) (fi := 46) FD_bars_of sc_bars_of rfl rfl (fun _ _ _ _ _ _ _ cq => jb_bars_of T G cq), He.glo_ok X Gh (c.fact 22 (f := .glo "bars_of") rfl), FD_bars_of.kp, FD_bars_of.bindsN (fun _ _ _ _ _ _ us hl => match us, hl with | [_], _ => rfl)⟩,
    ⟨He.ga K "words_of", fd_words_of, ["tellings"], rfl, zbe (tbl := tbl) (fi := 47) FD_words_of sc_words_of rfl rfl (fun _ _ _ _ _ _ _ cq => jb_words_of T G cq), He.glo_ok X Gh (c.fact 23 (f := .glo "words_of") rfl), FD_words_of.kp, FD_words_of.bindsN (fun _ _ _ _ _ _ us hl => match us, hl with | [_], _ => rfl)⟩,
    ⟨He.ga K "_law_start", fd__law_start, ["_law_script"], rfl, zbe (tbl := tbl) (fi := 4) FD__law_start sc__law_start rfl rfl (fun _ _ _ _ _ _ _ cq => jb__law_start T G cq), He.glo_ok X Gh (c.fact 24 (f := .glo "_law_start") rfl), FD__law_start.kp, FD__law_start.bindsN (fun _ _ _ _ _ _ us hl => match us, hl with | [_], _ => rfl)⟩,
    ⟨He.ga K "_law_draw", fd__law_draw, ["_law_state", "_law_many"], rfl, zbe (tbl := tbl) (fi := 6) FD__law_draw sc__law_draw rfl rfl (fun _ _ _ _ _ _ _ cq => jb__law_draw T G cq), He.glo_ok X Gh (c.fact 25 (f := .glo "_law_draw") rfl), FD__law_draw.kp, FD__law_draw.bindsN (fun _ _ _ _ _ _ us hl => match us, hl with | [_, _], _ => rfl)⟩,
    ⟨He.ga K "_law_mix", fd__law_mix, ["_law_state"], rfl, zbe (tbl := tbl) (fi := 5) FD__law_mix sc__law_mix rfl rfl (fun _ _ _ _ _ _ _ cq => jb__law_mix T G cq), He.glo_ok X Gh (c.fact 26 (f := .glo "_law_mix") rfl), FD__law_mix.kp, FD__law_mix.bindsN (fun _ _ _ _ _ _ us hl => match us, hl with | [_], _ => rfl)⟩,
    ⟨He.ga K "_law_whole", fd__law_whole, ["_law_thing"], rfl, zbe (tbl := tbl) (fi := 91) FD__law_whole sc__law_whole rfl rfl (fun _ _ _ _ _ _ _ cq => jb__law_whole T G cq), He.glo_ok X Gh (c.fact 27 (f := .glo "_law_whole") rfl), FD__law_whole.kp, FD__law_whole.bindsN (fun _ _ _ _ _ _ us hl => match us, hl with | [_], _ => rfl)⟩,
    ⟨He.ga K "_law_same", fd__law_same, ["_law_found", "_law_want"], rfl, zbe (tbl := tbl) (fi := 7) FD__law_same sc__law_same rfl rfl (fun _ _ _ _ _ _ _ cq => jb__law_same T G cq), He.glo_ok X Gh (c.fact 28 (f := .glo "_law_same") rfl), FD__law_same.kp, FD__law_same.bindsN (fun _ _ _ _ _ _ us hl => match us, hl with | [_, _], _ => rfl)⟩,
    ⟨He.ga K "_law_lowest", fd__law_lowest, ["_law_top", "_law_bottom"], rfl, zbe (tbl := tbl) (fi := 9) FD__law_lowest sc__law_lowest rfl rfl (fun _ _ _ _ _ _ _ cq => jb__law_lowest T G cq), He.glo_ok X Gh (c.fact 29 (f := .glo "_law_lowest") rfl), FD__law_lowest.kp, FD__law_lowest.bindsN (fun _ _ _ _ _ _ us hl => match us, hl with | [_, _], _ => rfl)⟩,
    ⟨He.ga K "_law_plus", fd__law_plus, ["_law_one", "_law_other"], rfl, zbe (tbl := tbl) (fi := 24) FD__law_plus sc__law_plus rfl rfl (fun _ _ _ _ _ _ _ cq => jb__law_plus T G cq), He.glo_ok X Gh (c.fact 30 (f := .glo "_law_plus") rfl), FD__law_plus.kp, FD__law_plus.bindsN (fun _ _ _ _ _ _ us hl => match us, hl with | [_, _], _ => rfl)⟩,
    ⟨He.ga K "_law_times", fd__law_times, ["_law_one", "_law_other"], rfl, zbe (tbl := tbl) (fi := 25) FD__law_times sc__law_times rfl rfl (fun _ _ _ _ _ _ _ cq => jb__law_times T G cq), He.glo_ok X Gh (c.fact 31 (f := .glo "_law_times") rfl), FD__law_times.kp, FD__law_times.bindsN (fun _ _ _ _ _ _ us hl => match us, hl with | [_, _], _ => rfl)⟩,
    ⟨He.ga K "_law_led", fd__law_led, ["_law_move", "_law_value"], rfl, zbe (tbl := tbl) (fi := 26) FD__law_led sc__law_led rfl rfl (fun _ _ _ _ _ _ _ cq => jb__law_led T G cq), He.glo_ok X Gh (c.fact 32 (f := .glo "_law_led") rfl), FD__law_led.kp, FD__law_led.bindsN (fun _ _ _ _ _ _ us hl => match us, hl with | [_, _], _ => rfl)⟩,
    ⟨He.ga K "_law_then", fd__law_then, ["_law_one", "_law_other"], rfl, zbe (tbl := tbl) (fi := 27) FD__law_then sc__law_then rfl rfl (fun _ _ _ _ _ _ _ cq => jb__law_then T G cq), He.glo_ok X Gh (c.fact 33 (f := .glo "_law_then") rfl), FD__law_then.kp, FD__law_then.bindsN (fun _ _ _ _ _ _ us hl => match us, hl with | [_, _], _ => rfl)⟩,
    ⟨He.ga K "_law_back", fd__law_back, ["_law_move"], rfl, zbe (tbl := tbl) (fi := 28) FD__law_back sc__law_back rfl rfl (fun _ _ _ _ _ _ _ cq => jb__law_back T G cq), He.glo_ok X Gh (c.fact 34 (f := .glo "_law_back") rfl), FD__law_back.kp, FD__law_back.bindsN (fun _ _ _ _ _ _ us hl => match us, hl with | [_], _ => rfl)⟩,
    ⟨He.ga K "_law_names", fd__law_names, ["_law_state", "_law_many"], rfl, zbe (tbl := tbl) (fi := 34) FD__law_names sc__law_names rfl rfl (fun _ _ _ _ _ _ _ cq => jb__law_names T G cq), He.glo_ok X Gh (c.fact 35 (f := .glo "_law_names") rfl), FD__law_names.kp, FD__law_names.bindsN (fun _ _ _ _ _ _ us hl => match us, hl with | [_, _], _ => rfl)⟩,
    ⟨He.ga K "_law_world", fd__law_world, ["_law_state", "_law_scales"], rfl, zbe (tbl := tbl) (fi := 35) FD__law_world sc__law_world rfl rfl (fun _ _ _ _ _ _ _ cq => jb__law_world T G cq), He.glo_ok X Gh (c.fact 36 (f := .glo "_law_world") rfl), FD__law_world.kp, FD__law_world.bindsN (fun _ _ _ _ _ _ us hl => match us, hl with | [_, _], _ => rfl)⟩,
    ⟨He.ga K "_law_tellings", fd__law_tellings, ["_law_state", "_law_scales", "_law_many"], rfl, zbe (tbl := tbl) (fi := 36) FD__law_tellings sc__law_tellings rfl rfl (fun _ _ _ _ _ _ _ cq => jb__law_tellings T G cq), He.glo_ok X Gh (c.fact 37 (f := .glo "_law_tellings") rfl), FD__law_tellings.kp, FD__law_tellings.bindsN (fun _ _ _ _ _ _ us hl => match us, hl with | [_, _, _], _ => rfl)⟩,
    ⟨He.ga K "_law_apart", fd__law_apart, ["_law_tellings_here", "_law_start_here", "_law_end"], rfl, zbe (tbl := tbl) (fi := 378) FD__law_apart sc__law_apart rfl rfl (fun _ _ _ _ _ _ _ cq => jb__law_apart T G cq), He.glo_ok X Gh (c.fact 38 (f := .glo "_law_apart") rfl), FD__law_apart.kp, FD__law_apart.bindsN (fun _ _ _ _ _ _ us hl => match us, hl with | [_, _, _], _ => rfl)⟩,
    ⟨He.ga K "_law_heir", fd__law_heir, ["_law_tellings_here", "_law_name"], rfl, zbe (tbl := tbl) (fi := 136) FD__law_heir sc__law_heir rfl rfl (fun _ _ _ _ _ _ _ cq => jb__law_heir T G cq), He.glo_ok X Gh (c.fact 39 (f := .glo "_law_heir") rfl), FD__law_heir.kp, FD__law_heir.bindsN (fun _ _ _ _ _ _ us hl => match us, hl with | [_, _], _ => rfl)⟩,
    ⟨He.ga K "law", fd_law, ["_law_script"], rfl, zbe (tbl := tbl) (fi := 379) FD_law sc_law rfl rfl (fun _ _ _ _ _ _ _ cq => jb_law T G cq), He.glo_ok X Gh (c.fact 40 (f := .glo "law") rfl), FD_law.kp, FD_law.bindsN (fun _ _ _ _ _ _ us hl => match us, hl with | [_], _ => rfl)⟩,
    ⟨⟨He.ga K "_law_alone", fd__law_alone, ["_law_e"], rfl, fn_okH (tbl := tbl) (fi := 77) FD__law_alone sc__law_alone rfl rfl (fun _ _ _ _ _ _ _ cq => jh__law_alone T G cq), He.glo_ok X Gh (c.fact 41 (f := .glo "_law_alone") rfl), FD__law_alone.kp, FD__law_alone.bindsN (fun _ _ _ _ _ _ us hl => match us, hl with | [_], _ => rfl)⟩⟩,
    ⟨⟨He.ga K "_law_same", fd__law_same, ["_law_found", "_law_want"], rfl, fn_okH (tbl := tbl) (fi := 377) FD__law_same sc__law_same rfl rfl (fun _ _ _ _ _ _ _ cq => jh__law_same T G cq), He.glo_ok X Gh (c.fact 28 (f := .glo "_law_same") rfl), FD__law_same.kp, FD__law_same.bindsN (fun _ _ _ _ _ _ us hl => match us, hl with | [_, _], _ => rfl)⟩⟩,
    xc_NoBottom,
    xc_NoTelling,
    xc_NoTie,
    xc_NotJoined⟩
theorem law_fn {P : Program} {w : World} {K : PySem.W.Frag} {h : Heap} {mg : Str → Option Value} {fa : Addr} (X : K.In h) (Gh : h.Ns mainGlobals mg) (hlw : mg ("law" : Str) = some (.ref fa)) (c : He.SaysD hfa hfn K) (e : hex K = true) (D : tbsU hts K = keyU hts w) :
    ∃ fd : FuncData, (∀ (s : Shared) (v : Value), BindsTo s fd ⟨[v], []⟩ [("_law_script", v)]) ∧ ∀ base : Heap, K.In base → base.Ns mainGlobals mg → (∀ p ∈ tabCs K, LamX.TabB base mg p.1 p.2) → FnOk P w K mg base (L2N.CX P w) (2 * LV + 3) fa fd ["_law_script"] (spF ⟨K, [], P, w⟩ mg (call tbl LV) 379 1) := by
  obtain ⟨fd, F⟩ := c.def_ 40 (d := d_law) rfl
  have ee := hlw.symm.trans (He.glo_ok X Gh (c.fact 40 (f := .glo "law") rfl))
  cases ee
  have b := FunD.bindsA (ps := ["_law_script"]) F fun _ _ _ _ _ _ us hl => match us, hl with | [_], _ => rfl
  exact ⟨fd, fun s v => b s [v] rfl, fun base _ _ TB => zbe (tbl := tbl) (fi := 379) F sc_law rfl rfl (fun _ _ _ _ _ _ _ cq => jb_law (fcts X Gh c e) (all_ok X Gh c e D TB _) cq)⟩
end Sb
set_option maxHeartbeats 4000000
namespace Sb
open PySem
/-- all but the places S is as it was -/
structure Fr (S : List Nat) (h h' : PH) : Prop where
  len : h.length ≤ h'.length
  at_ : ∀ n, n ∉ S → n < h.length → h'[n]? = h[n]?
theorem Fr.refl (S : List Nat) (h : PH) : Fr S h h := ⟨Nat.le_refl _, fun _ _ _ => rfl⟩
theorem Fr.trans {S : List Nat} {h1 h2 h3 : PH} (a : Fr S h1 h2) (b : Fr S h2 h3) : Fr S h1 h3 := ⟨Nat.le_trans a.len b.len, fun n hn hl => (b.at_ n hn (Nat.lt_of_lt_of_le hl a.len)).trans (a.at_ n hn hl)⟩
theorem Fr.set {S : List Nat} {h : PH} {n : Nat} {o : PO} (m : n ∈ S) : Fr S h (h.set n o) := ⟨by rw [List.length_set]; exact Nat.le_refl _, fun k hk _ => by
  rw [List.getElem?_set_ne]
  rintro rfl
  exact hk m⟩
theorem Fr.app {S : List Nat} {h t : PH} : Fr S h (h ++ t) := ⟨by simp, fun k _ hl => List.getElem?_append_left hl⟩
theorem Fr.some {S : List Nat} {h h' : PH} (f : Fr S h h') {n : Nat} {o : PO} (hn : n ∉ S) (e : h[n]? = some o) : h'[n]? = some o := (f.at_ n hn (List.getElem?_eq_some_iff.mp e).1).trans e
theorem Fr.mono {S S' : List Nat} {h h' : PH} (f : Fr S h h') (hs : ∀ n ∈ S, n ∈ S') : Fr S' h h' := ⟨f.len, fun n hn hl => f.at_ n (fun z => hn (hs n z)) hl⟩
/-- the state of the draws: s the state's list, g the great numbers left, c the cells; at most B mixes were made -/
structure St (h : PH) (s g c B : Nat) : Prop where
  ex : ∃ (gr : List Int) (cur : Int) (cs : List Int) (cnt : Int), h[s]? = some (.lst [.ref g, .int cur, .ref c, .int cnt]) ∧ h[g]? = some (.lst (gr.map PV.int)) ∧ h[c]? = some (.lst (cs.map PV.int)) ∧
    (∀ x ∈ gr, 0 < x) ∧ (∀ x ∈ cs, 0 ≤ x ∧ x < 2147483587) ∧ cs.length ≤ 1000000 ∧ 0 ≤ cur ∧ 0 ≤ cnt ∧ cnt ≤ (B : Int)
  sg : s ≠ g
  sc : s ≠ c
  gc : g ≠ c
theorem St.frame {h h' : PH} {s g c B : Nat} {S : List Nat} (st : St h s g c B) (f : Fr S h h') (h1 : s ∉ S) (h2 : g ∉ S) (h3 : c ∉ S) : St h' s g c B := by
  obtain ⟨gr, cur, cs, cnt, e1, e2, e3, r⟩ := st.ex
  exact ⟨⟨gr, cur, cs, cnt, f.some h1 e1, f.some h2 e2, f.some h3 e3, r⟩, st.sg, st.sc, st.gc⟩
theorem St.app {h t : PH} {s g c B : Nat} (st : St h s g c B) : St (h ++ t) s g c B := st.frame (S := []) Fr.app (by simp) (by simp) (by simp)
theorem St.up {h : PH} {s g c B B' : Nat} (st : St h s g c B) (hb : B ≤ B') : St h s g c B' := by
  obtain ⟨gr, cur, cs, cnt, e1, e2, e3, r1, r2, r3, r4, r5, r6⟩ := st.ex
  exact ⟨⟨gr, cur, cs, cnt, e1, e2, e3, r1, r2, r3, r4, r5, by omega⟩, st.sg, st.sc, st.gc⟩
theorem set_at {h : PH} {n : Nat} {o o' : PO} (e : h[n]? = some o) : (h.set n o')[n]? = some o' := List.getElem?_set_self (List.getElem?_eq_some_iff.mp e).1
theorem za6 {h : PH} {n m : Nat} {o : PO} (e : n ≠ m) : (h.set n o)[m]? = h[m]? := List.getElem?_set_ne e
section
variable {tbl : Nat → Fn}
theorem mix_sat (h5 : tbl 5 = F_law_mix) {k : Nat} {h : PH} {s g c B : Nat} (st : St h s g c B) (hB : B + 1 ≤ 2 ^ 20) {Q : PV → PH → Prop}
    (q : ∀ r h', 0 ≤ r → r < 1000000007 → St h' s g c (B + 1) → Fr [s, g] h h' → h'.length = h.length → Q (.int r) h') : (call tbl (k + 1) 5 [.ref s] h).Sat Q := by
  rw [zam, h5]
  obtain ⟨gr, cur, cs, cnt, e1, e2, e3, r1, r2, r3, r4, r5, r6⟩ := st.ex
  refine zay rfl ?_
  have hn : h.set s (.lst [.ref g, .int cur, .ref c, .int (cnt + 1)]) = h.set s (.lst [.ref g, .int cur, .ref c, .int (cnt + 1)]) := rfl
  generalize eh : h.set s (.lst [.ref g, .int cur, .ref c, .int (cnt + 1)]) = h1 at hn
  have f1 : h1[s]? = some (.lst [.ref g, .int cur, .ref c, .int (cnt + 1)]) := by rw [← eh]; exact set_at e1
  have f2 : h1[g]? = some (.lst (gr.map PV.int)) := by rw [← eh, za6 st.sg]; exact e2
  have f3 : h1[c]? = some (.lst (cs.map PV.int)) := by rw [← eh, za6 st.sc]; exact e3
  have st1 : St h1 s g c (B + 1) := ⟨⟨gr, cur, cs, cnt + 1, f1, f2, f3, r1, r2, r3, r4, by omega, by omega⟩, st.sg, st.sc, st.gc⟩
  have fr1 : Fr [s, g] h h1 := by rw [← eh]; exact Fr.set (by simp)
  have i3 : zcc (.ref s) (.int 3) h1 = .ok (.int (cnt + 1)) h1 := idx_ref f1 rfl
  have i2 : zcc (.ref s) (.int 2) h1 = .ok (.ref c) h1 := idx_ref f1 rfl
  -- the sum's end, whatever the cell is
  have fin_ : ∀ cell : Int, 0 ≤ cell → cell < 2147483587 → (exSs (call tbl k) [.asg (.nm 3) (.bin .Mod (.bin .Pow (.bin .Add (.bin .Add (.bin .Add (.var 2) (.bin .Mult (.bin .Mult (.lit (.int 769)) (.var 1)) (.var 1))) (.bin .Mult (.lit (.int 52361)) (.var 1))) (.lit (.int 23))) (.lit (.int 5))) (.lit (.int 2147483647))),
      .ret (.bin .Mod (.bin .Add (.bin .Mult (.var 3) (.lit (.int 48271))) (.bin .Mult (.lit (.int 6007)) (.var 1))) (.lit (.int 1000000007)))] [some (.ref s), some (.int (cnt + 1)), some (.int cell), none] h1).Sat (fun _ h => Q .non h) Q := by
    intro cell c0 c1
    have b20 : cnt + 1 ≤ 2 ^ 20 := by omega
    have m1 : zc6 769 (cnt + 1) = true := mul_ok (a := 10) (b := 21) (by decide) (by omega) (by decide) (by decide) (by decide)
    have s1 : 769 * (cnt + 1) ≤ 769 * 2 ^ 20 := by omega
    have m2 : zc6 (769 * (cnt + 1)) (cnt + 1) = true := mul_ok (a := 31) (b := 21) (by omega) (by omega) (by decide) (by decide) (by decide)
    have m3 : zc6 52361 (cnt + 1) = true := mul_ok (a := 16) (b := 21) (by decide) (by omega) (by decide) (by decide) (by decide)
    have s2 : 769 * (cnt + 1) * (cnt + 1) ≤ 769 * 2 ^ 20 * 2 ^ 20 := Int.mul_le_mul s1 b20 (by omega) (by omega)
    have s3 : 0 ≤ 769 * (cnt + 1) * (cnt + 1) := Int.mul_nonneg (by omega) (by omega)
    have p1 : powOk (cell + 769 * (cnt + 1) * (cnt + 1) + 52361 * (cnt + 1) + 23) 5 = true := by
      unfold powOk
      rw [decide_eq_true (show (cell + 769 * (cnt + 1) * (cnt + 1) + 52361 * (cnt + 1) + 23).natAbs < 2 ^ 64 by omega)]
      rfl
    generalize hx : (cell + 769 * (cnt + 1) * (cnt + 1) + 52361 * (cnt + 1) + 23) ^ 5 = x
    have md := Int.emod_lt_of_pos x (show (0 : Int) < 2147483647 by decide)
    have mn := Int.emod_nonneg x (show (2147483647 : Int) ≠ 0 by decide)
    have m4 : zc6 (x % 2147483647) 48271 = true := mul_ok (a := 31) (b := 16) (by omega) (by decide) (by decide) (by decide) (by decide)
    have m5 : zc6 6007 (cnt + 1) = true := mul_ok (a := 13) (b := 21) (by decide) (by omega) (by decide) (by decide) (by decide)
    have e47 : (2147483647 : Int) ≠ 0 := by decide
    have e07 : (1000000007 : Int) ≠ 0 := by decide
    simp [zai, b_mul, b_mod, b_pow, m1, m2, m3, p1, hx, fmod_pos, m4, m5, e47, e07]
    exact q _ _ (Int.emod_nonneg _ (by decide)) (Int.emod_lt_of_pos _ (by decide)) st1 fr1 (by rw [← eh, List.length_set])
  have getl : getL (.ref s) (.int 3) h = .ok (.int cnt) h := by simp [getL, e1]
  have seto : setop (.ref s) (.int 3) (.int (cnt + 1)) h = some h1 := by simp [setop, e1, L2.ixN, eh]
  have tr : truthy h1 (.ref c) = some (!(cs.map PV.int).isEmpty) := tru_ref f3
  simp only [F_law_mix, zas, List.map, List.length, List.replicate, List.cons_append, List.nil_append]
  rw [zai, x_augs]
  simp [getl, seto]
  rw [zai]
  simp [i3]
  rw [zai]
  simp
  rw [zai]
  simp [i2, tr, zai]
  cases cs with
  | nil => simpa [zai] using fin_ 11 (by decide) (by decide)
  | cons y ys =>
    have ln : biF .len [.ref c] h1 = .ok (.int ((ys.length : Int) + 1)) h1 := by simp [biF, biLen, zbw, f3]
    have hp : (0 : Int) < (ys.length : Int) + 1 := by omega
    have hi0 := Int.emod_nonneg (cnt + 1) (show ((ys.length : Int) + 1) ≠ 0 by omega)
    have hi1 := Int.emod_lt_of_pos (cnt + 1) hp
    obtain ⟨z, hz⟩ : ∃ z, (y :: ys)[((cnt + 1) % ((ys.length : Int) + 1)).toNat]? = some z := ⟨_, List.getElem?_eq_getElem (by rw [List.length_cons]; omega)⟩
    have iz : zcc (.ref c) (.int ((cnt + 1) % ((ys.length : Int) + 1))) h1 = .ok (.int z) h1 := idx_ref f3 (at_pos hi0 (by rw [List.getElem?_map, hz]; rfl))
    obtain ⟨z0, z1⟩ := r2 z (List.mem_of_getElem? hz)
    have md := b_mod (h := h1) (i := cnt + 1) (show ((ys.length : Int) + 1) ≠ 0 by omega)
    rw [fmod_pos hp] at md
    simp [ln, md, iz]
    simpa [zai] using fin_ z z0 z1
theorem M_pow (i : Nat) (h : i ≤ 7) : (1000000007 : Int) ^ i ≤ 1000000007 ^ 7 ∧ 1 ≤ (1000000007 : Int) ^ i := by
  match i, h with
  | 0, _ => decide
  | 1, _ => decide
  | 2, _ => decide
  | 3, _ => decide
  | 4, _ => decide
  | 5, _ => decide
  | 6, _ => decide
  | 7, _ => decide
theorem zbg (h5 : tbl 5 = F_law_mix) (h6 : tbl 6 = F_law_draw) {k : Nat} {h : PH} {s g c B : Nat} {m : Int} (st : St h s g c B) (hB : B + 8 ≤ 2 ^ 20) (m0 : 0 < m) (m1 : m ≤ 10 ^ 62) {Q : PV → PH → Prop}
    (q : ∀ r h', 0 ≤ r → r < m → St h' s g c (B + 8) → Fr [s, g] h h' → h'.length = h.length → Q (.int r) h') : (call tbl (k + 2) 6 [.ref s, .int m] h).Sat Q := by
  rw [zam, h6]
  refine zay rfl ?_
  obtain ⟨gr, cur, cs, cnt, e1, e2, e3, r1, r2, r3, r4, r5, r6⟩ := st.ex
  have mz : m ≠ 0 := by omega
  have mb : m.natAbs < 2 ^ 207 := by
    have : (10 : Int) ^ 62 < 2 ^ 207 := by decide
    omega
  have md : divOk m = true := div_ok mz mb (by decide) (by decide)
  -- behind the first statement
  have rest : ∀ (gr : List Int) (cur : Int) (h1 : PH), h1[s]? = some (.lst [.ref g, .int cur, .ref c, .int cnt]) → h1[g]? = some (.lst (gr.map PV.int)) → h1[c]? = some (.lst (cs.map PV.int)) → (∀ x ∈ gr, 0 < x) → 0 ≤ cur → Fr [s, g] h h1 → h1.length = h.length →
      (exSs (call tbl (k + 1)) [.ifs (.cmp .Gt (.idx (.var 0) (.lit (.int 1))) (.lit (.int 0))) [.asg (.nm 2) (.bin .Mod (.idx (.var 0) (.lit (.int 1))) (.var 1)),
  .asg (.sub (.var 0) (.lit (.int 1))) (.bin .FloorDiv (.idx (.var 0) (.lit (.int 1))) (.var 1)),
  .ret (.var 2)] [],
  .asg (.nm 2) (.lit (.int 0)),
  .asg (.nm 3) (.lit (.int 1)),
  .whl (.cmp .Lt (.var 3) (.var 1)) [.asg (.nm 2) (.bin .Add (.bin .Mult (.var 2) (.lit (.int 1000000007))) (.call 5 [(.var 0)] [])),
  .asg (.nm 3) (.bin .Mult (.var 3) (.lit (.int 1000000007)))],
  .ret (.bin .Mod (.var 2) (.var 1))] [some (.ref s), some (.int m), none, none] h1).Sat (fun _ h => Q .non h) Q := by
    intro gr cur h1 e1 e2 e3 r1 r4 fr hl
    have st1 : St h1 s g c B := ⟨⟨gr, cur, cs, cnt, e1, e2, e3, r1, r2, r3, r4, r5, r6⟩, st.sg, st.sc, st.gc⟩
    have i1 : zcc (.ref s) (.int 1) h1 = .ok (.int cur) h1 := idx_ref e1 rfl
    by_cases hc : 0 < cur
    · have bm := b_mod (h := h1) (i := cur) mz
      have bd := b_fdiv (h := h1) (i := cur) md
      rw [fmod_pos m0] at bm
      rw [fdiv_pos m0] at bd
      have so : setop (.ref s) (.int 1) (.int (cur / m)) h1 = some (h1.set s (.lst [.ref g, .int (cur / m), .ref c, .int cnt])) := by simp [setop, e1, L2.ixN]
      simp [zai, i1, hc, bm, bd, so]
      refine q _ _ (Int.emod_nonneg _ mz) (Int.emod_lt_of_pos _ m0) ⟨⟨gr, cur / m, cs, cnt, set_at e1, ?_, ?_, r1, r2, r3, Int.ediv_nonneg r4 (by omega), r5, by omega⟩, st.sg, st.sc, st.gc⟩ (fr.trans (Fr.set (by simp))) (by rw [List.length_set, hl])
      · rw [za6 st.sg]; exact e2
      · rw [za6 st.sc]; exact e3
    · rw [zai]
      simp [i1, hc]
      rw [zai]
      simp
      rw [zai]
      simp
      rw [zai]
      obtain ⟨I, hI⟩ : ∃ I : Nat → Env → PH → Prop, I = fun n ρ h' => ∃ (i : Nat) (told : Int), n = 7 - i ∧ ρ = [some (.ref s), some (.int m), some (.int told), some (.int (1000000007 ^ i))] ∧ i ≤ 7 ∧ 0 ≤ told ∧ told < 1000000007 ^ i ∧ St h' s g c (B + i) ∧ Fr [s, g] h h' ∧ h'.length = h.length := ⟨_, rfl⟩
      refine x_whl I 7 (by rw [hI]; exact ⟨0, 0, rfl, rfl, by decide, by decide, by decide, st1, fr, hl⟩) ?_
      intro n ρ h2 hi
      rw [hI] at hi
      obtain ⟨i, told, rfl, rfl, i7, t0, t1, st2, fr2, hl2⟩ := hi
      obtain ⟨p1, p2⟩ := M_pow i i7
      by_cases hlt : (1000000007 : Int) ^ i < m
      · have i6 : i < 7 := by
          rcases Nat.lt_or_ge i 7 with z | z
          · exact z
          · have : i = 7 := by omega
            subst this
            have : (10 : Int) ^ 62 < 1000000007 ^ 7 := by decide
            omega
        have p7 : (1000000007 : Int) ^ 7 < 2 ^ 210 := by decide
        have k1 : zc6 told 1000000007 = true := mul_ok (a := 210) (b := 30) (by omega) (by decide) (by decide) (by decide) (by decide)
        have k2 : zc6 (1000000007 ^ i) 1000000007 = true := mul_ok (a := 210) (b := 30) (by omega) (by decide) (by decide) (by decide) (by decide)
        simp [hlt, b_mul, k1, zai]
        refine mix_sat h5 st2 (by omega) fun r h3 q1 q2 st3 fr3 hl3 => ?_
        simp [b_mul, k2]
        have ps : (1000000007 : Int) ^ (i + 1) = 1000000007 ^ i * 1000000007 := Int.pow_succ _ _
        refine ⟨7 - (i + 1), by omega, ?_⟩
        rw [hI]
        refine ⟨i + 1, told * 1000000007 + r, rfl, by rw [ps], by omega, by omega, ?_, st3, fr2.trans fr3, hl3.trans hl2⟩
        rw [ps]
        omega
      · simp [hlt]
        have bm := b_mod (h := h2) (i := told) mz
        rw [fmod_pos m0] at bm
        simp [bm, zai]
        exact q _ _ (Int.emod_nonneg _ mz) (Int.emod_lt_of_pos _ m0) (st2.up (by omega)) fr2 hl2
  have i0 : zcc (.ref s) (.int 0) h = .ok (.ref g) h := idx_ref e1 rfl
  have i1 : zcc (.ref s) (.int 1) h = .ok (.int cur) h := idx_ref e1 rfl
  have tr : truthy h (.ref g) = some (!(gr.map PV.int).isEmpty) := tru_ref e2
  simp only [F_law_draw, zas, List.map, List.length, List.replicate, List.cons_append, List.nil_append]
  rw [zai, x_if]
  simp [i1, i0, tr]
  by_cases hc : cur = 0
  · subst hc
    cases gr with
    | nil =>
      simp
      exact rest [] 0 h e1 e2 e3 (by simp) (by decide) (Fr.refl _ _) rfl
    | cons x xs =>
      have ty : tyOf h (.ref g) = some .list := by simp [tyOf, e2]
      have so : setop (.ref s) (.int 1) (.int x) (h.set g (.lst (xs.map PV.int))) = some ((h.set g (.lst (xs.map PV.int))).set s (.lst [.ref g, .int x, .ref c, .int cnt])) := by
        have : (h.set g (.lst (xs.map PV.int)))[s]? = some (.lst [.ref g, .int 0, .ref c, .int cnt]) := by rw [za6 (Ne.symm st.sg)]; exact e1
        simp [setop, this, L2.ixN]
      have pp : mtF .popAt (.ref g) [.int 0] h = .ok (.int x) (h.set g (.lst (xs.map PV.int))) := by simp [mtF, mtPopAt, e2]
      simp [i0, ty, MT.ty, pp, so]
      have q1 : ((h.set g (.lst (xs.map PV.int))).set s (.lst [.ref g, .int x, .ref c, .int cnt]))[s]? = some (.lst [.ref g, .int x, .ref c, .int cnt]) := set_at (o := .lst [.ref g, .int 0, .ref c, .int cnt]) (by rw [za6 (Ne.symm st.sg)]; exact e1)
      have q2 : ((h.set g (.lst (xs.map PV.int))).set s (.lst [.ref g, .int x, .ref c, .int cnt]))[g]? = some (.lst (xs.map PV.int)) := by rw [za6 st.sg]; exact set_at e2
      have q3 : ((h.set g (.lst (xs.map PV.int))).set s (.lst [.ref g, .int x, .ref c, .int cnt]))[c]? = some (.lst (cs.map PV.int)) := by rw [za6 st.sc, za6 st.gc]; exact e3
      exact rest xs x _ q1 q2 q3 (fun y hy => r1 y (List.mem_cons_of_mem _ hy)) (Int.le_of_lt (r1 x List.mem_cons_self)) ((Fr.set (by simp)).trans (Fr.set (by simp))) (by simp)
  · simp [hc]
    exact rest gr cur h e1 e2 e3 r1 r4 (Fr.refl _ _) rfl
end
end Sb
namespace Sb
open PySem
theorem R.Sat.eq {α : Type} {m : R α} {x : α} {y : PH} (s : m.Sat fun a h => a = x ∧ h = y) : m = .ok x y := by
  obtain ⟨a, h, e, rfl, rfl⟩ := s.ex
  exact e
theorem zbu (h : PH) : zbn [] h := fun p hp => by cases hp
section
variable {tbl : Nat → Fn}
theorem start_sat (h4 : tbl 4 = F_law_start) {k : Nat} {h : PH} {ns : List Int} (hn : ns.length ≤ 63) {Q : PV → PH → Prop}
    (q : ∀ h', St h' (h.length + 2) h.length (h.length + 1) 0 → Fr [] h h' → h'.length = h.length + 3 → Q (.ref (h.length + 2)) h') : (call tbl (k + 1) 4 [.cl (ns.map PV.int)] h).Sat Q := by
  rw [zam, h4]
  refine zay rfl ?_
  simp only [F_law_start, zas, List.map, List.length, List.replicate, List.cons_append, List.nil_append]
  rw [zai, x_set]
  obtain ⟨I, hI⟩ : ∃ I : Nat → List PV → PH → Prop, I = fun i acc h' => h' = h ∧ ∃ gr : List Int, acc = gr.map PV.int ∧ (∀ x ∈ gr, 0 < x) ∧ gr.length ≤ i := ⟨_, rfl⟩
  refine v_compE (l := [.cl (ns.map PV.int)]) (h1 := h) (by simp) rfl I (by rw [hI]; exact ⟨rfl, [], rfl, by simp, Nat.le_refl _⟩) (fun i x acc h1 hx hi => ?_) (fun acc h1 hi => ?_)
  · rw [List.getElem?_map] at hx
    obtain ⟨y, hy, ex⟩ := Option.map_eq_some_iff.mp hx
    rw [hI] at hi
    obtain ⟨rfl, gr, rfl, g1, g2⟩ := hi
    subst ex
    have hi : i < 63 := by
      have := (List.getElem?_eq_some_iff.mp hy).1
      omega
    refine ⟨zbu _, [some (.cl (ns.map PV.int)), none, some (.int y)], rfl, ?_⟩
    have p1 : powOk 10 18 = true := by decide
    simp [b_pow, p1]
    by_cases hc : (1000000000000000000 : Int) ≤ y
    · refine .inr ⟨hc, zaq (by omega), ?_⟩
      rw [hI]
      refine ⟨rfl, gr ++ [y], by simp, fun z hz => ?_, by rw [List.length_append]; simp; omega⟩
      rcases List.mem_append.mp hz with z1 | z1
      · exact g1 z z1
      · rw [List.mem_singleton.mp z1]
        omega
    · refine .inl ⟨by omega, ?_⟩
      rw [hI]
      exact ⟨rfl, gr, rfl, g1, by omega⟩
  · rw [hI] at hi
    obtain ⟨rfl, gr, rfl, g1, g2⟩ := hi
    rw [List.length_map] at g2
    refine ⟨zbu _, zaq (by rw [List.length_map]; omega), ?_⟩
    simp
    obtain ⟨J, hJ⟩ : ∃ J : Nat → List PV → PH → Prop, J = fun i acc h' => h' = h1 ++ [.lst (gr.map PV.int)] ∧ ∃ cs : List Int, acc = cs.map PV.int ∧ (∀ x ∈ cs, 0 ≤ x ∧ x < 2147483587) ∧ cs.length ≤ i := ⟨_, rfl⟩
    refine v_compE (l := [.cl (ns.map PV.int)]) (h1 := h1 ++ [.lst (gr.map PV.int)]) (by simp) rfl J (by rw [hJ]; exact ⟨rfl, [], rfl, by simp, Nat.le_refl _⟩) (fun i x acc h2 hx hi => ?_) (fun acc h2 hi => ?_)
    · rw [List.getElem?_map] at hx
      obtain ⟨y, hy, ex⟩ := Option.map_eq_some_iff.mp hx
      rw [hJ] at hi
      obtain ⟨rfl, cs, rfl, c1, c2⟩ := hi
      subst ex
      have hi : i < 63 := by
        have := (List.getElem?_eq_some_iff.mp hy).1
        omega
      refine ⟨zbu _, [some (.cl (ns.map PV.int)), some (.ref h1.length), some (.int y)], rfl, ?_⟩
      have bm := b_mod (h := h1 ++ [.lst (gr.map PV.int)]) (i := y) (show (2147483587 : Int) ≠ 0 by decide)
      rw [fmod_pos (by decide)] at bm
      simp [bm]
      refine ⟨zaq (by omega), ?_⟩
      rw [hJ]
      refine ⟨rfl, cs ++ [y % 2147483587], by simp, fun z hz => ?_, by rw [List.length_append]; simp; omega⟩
      rcases List.mem_append.mp hz with z1 | z1
      · exact c1 z z1
      · rw [List.mem_singleton.mp z1]
        exact ⟨Int.emod_nonneg _ (by decide), Int.emod_lt_of_pos _ (by decide)⟩
    · rw [hJ] at hi
      obtain ⟨rfl, cs, rfl, c1, c2⟩ := hi
      rw [List.length_map] at c2
      refine ⟨zbu _, zaq (by rw [List.length_map]; omega), ?_⟩
      rw [zaw _ (by simp)]
      simp
      have e : (h1 ++ [PO.lst (gr.map PV.int), PO.lst (cs.map PV.int), PO.lst [.ref h1.length, .int 0, .ref (h1.length + 1), .int 0]]).length = h1.length + 3 := by simp
      refine q _ ⟨⟨gr, 0, cs, 0, by simp, by simp, by simp, g1, c1, by omega, by decide, by decide, by decide⟩, by omega, by omega, by omega⟩ Fr.app e
theorem gcd_step (a b : Nat) (hb : 0 < b) : Int.gcd (b : Int) ((a : Int) % (b : Int)) = Int.gcd (a : Int) (b : Int) := by
  have e : ((a : Int) % (b : Int)) = ((a % b : Nat) : Int) := by simp
  rw [e]
  show Nat.gcd _ _ = Nat.gcd _ _
  simp only [Int.natAbs_natCast]
  rw [Nat.gcd_comm b, ← Nat.gcd_rec, Nat.gcd_comm]
theorem common_eq (h0 : tbl 0 = F_common) {k : Nat} {h : PH} (a b : Int) : call tbl (k + 1) 0 [.int a, .int b] h = .ok (.int (Int.gcd a b : Nat)) h := by
  refine R.Sat.eq ?_
  rw [zam, h0]
  refine zay rfl ?_
  simp only [F_common, zas, List.map, List.length, List.replicate, List.cons_append, List.nil_append]
  have ab : ∀ x : Int, biF .abs [.int x] h = .ok (.int (x.natAbs : Nat)) h := fun x => by
    show R.ok (PV.int (if x < 0 then -x else x)) h = _
    congr 2
    split <;> omega
  rw [zai]
  simp [ab, zbx]
  rw [zai]
  obtain ⟨I, hI⟩ : ∃ I : Nat → Env → PH → Prop, I = fun (n : Nat) (ρ : Env) h' => h' = h ∧ ∃ x : Nat, ρ = [some (.int (x : Nat)), some (.int (n : Nat))] ∧ Int.gcd x n = Int.gcd a b := ⟨_, rfl⟩
  refine x_whl I b.natAbs (by rw [hI]; exact ⟨rfl, a.natAbs, rfl, by simp [Int.gcd]⟩) ?_
  intro n ρ h2 hi
  rw [hI] at hi
  obtain ⟨rfl, x, rfl, g⟩ := hi
  by_cases hn : 0 < n
  · have bm := b_mod (h := h2) (i := (x : Int)) (show (n : Int) ≠ 0 by omega)
    rw [fmod_pos (by omega)] at bm
    simp [hn, bm, zbx]
    refine ⟨x % n, Nat.mod_lt _ hn, ?_⟩
    rw [hI]
    exact ⟨rfl, n, by simp, by rw [Int.natCast_emod, gcd_step x n hn]; exact g⟩
  · have : n = 0 := by omega
    subst this
    simp
    rw [← g]
    simp
/-- t over b in lowest terms, the bottom positive (b not nought) -/
def byOf (t b : Int) : Int := if b < 0 then -(Int.gcd t b : Nat) else (Int.gcd t b : Nat)
def lowP (t b : Int) : PV := .tup [.int (t.fdiv (byOf t b)), .int (b.fdiv (byOf t b))]
theorem byOf_ne {t b : Int} (hb : b ≠ 0) : byOf t b ≠ 0 := by
  have : Int.gcd t b ≠ 0 := fun z => hb (Int.gcd_eq_zero_iff.mp z).2
  unfold byOf
  split <;> omega
theorem byOf_le {t b : Int} (hb : b ≠ 0) : (byOf t b).natAbs ≤ b.natAbs := by
  have h1 : Int.gcd t b ∣ b.natAbs := by
    have := Int.natAbs_dvd_natAbs.mpr (Int.gcd_dvd_right t b)
    simpa using this
  have h2 := Nat.le_of_dvd (by omega) h1
  unfold byOf
  split <;> omega
theorem lowest_eq (h9 : tbl 9 = F_law_lowest) {k : Nat} {h : PH} {t b : Int} (hb : b ≠ 0) (hs : b.natAbs < 2 ^ 8000) : call tbl (k + 1) 9 [.int t, .int b] h = .ok (lowP t b) h := by
  refine R.Sat.eq ?_
  rw [zam, h9]
  refine zay rfl ?_
  simp only [F_law_lowest, zas, List.map, List.length, List.replicate, List.cons_append, List.nil_append]
  have ab : ∀ x : Int, biF .abs [.int x] h = .ok (.int (x.natAbs : Nat)) h := fun x => by
    show R.ok (PV.int (if x < 0 then -x else x)) h = _
    congr 2
    split <;> omega
  rw [zai]
  simp [ab]
  rw [zai]
  simp [ab]
  rw [zai]
  obtain ⟨I, hI⟩ : ∃ I : Nat → Env → PH → Prop, I = fun (n : Nat) (ρ : Env) h' => h' = h ∧ ∃ x : Nat, ρ = [some (.int t), some (.int b), some (.int (x : Nat)), some (.int (n : Nat))] ∧ Int.gcd x n = Int.gcd t b := ⟨_, rfl⟩
  refine x_whl I b.natAbs (by rw [hI]; exact ⟨rfl, t.natAbs, rfl, by simp [Int.gcd]⟩) ?_
  intro n ρ h2 hi
  rw [hI] at hi
  obtain ⟨rfl, x, rfl, g⟩ := hi
  by_cases hn : 0 < n
  · have bm := b_mod (h := h2) (i := (x : Int)) (show (n : Int) ≠ 0 by omega)
    rw [fmod_pos (by omega)] at bm
    simp [hn, bm, zbx]
    refine ⟨x % n, Nat.mod_lt _ hn, ?_⟩
    rw [hI]
    exact ⟨rfl, n, by simp, by rw [Int.natCast_emod, gcd_step x n hn]; exact g⟩
  · have : n = 0 := by omega
    subst this
    have g' : (x : Int) = (Int.gcd t b : Nat) := by
      rw [← g]
      simp
    have dv : divOk (byOf t b) = true := div_ok (byOf_ne hb) (Nat.lt_of_le_of_lt (byOf_le hb) hs) (by decide) (by decide)
    simp
    rw [zai]
    by_cases hneg : b < 0
    · have e : byOf t b = -(x : Int) := by unfold byOf; rw [if_pos hneg, g']
      rw [e] at dv
      simp [hneg, b_fdiv, dv]
      simp [lowP, e]
    · have e : byOf t b = (x : Int) := by unfold byOf; rw [if_neg hneg, g']
      rw [e] at dv
      simp [hneg, b_fdiv, dv]
      simp [lowP, e]
end
end Sb
namespace Sb
open PySem
/-- a comprehension with no condition, as a map -/
theorem v_mapE {C : Calls} {tg : List Nat} {one : TgK} {k : ITK} {its : List E} {own : List Nat} {a : E} {ρ : Env} {h h1 : PH} {Q : PV → PH → Prop} {l items : List PV} {kp : Keep} (e1 : evGs C its ρ h = .ok l h1) (e2 : zcm k l h1 = some (items, kp)) (f : PV → PV) (P : PH → Prop) (h0 : P h1) (hk : ∀ h, P h → zbn kp h) (hl : items.length ≤ 1000000)
    (hs : ∀ x ∈ items, ∀ h, P h → ∃ ρ1, zbo (zbi ρ own) tg one x = some ρ1 ∧ (evG C a false ρ1 h).Sat fun v h2 => v = f x ∧ P h2)
    (hd : ∀ h, P h → Q (.ref h.length) (h ++ [.lst (items.map f)])) : (evG C (.comp a tg one k its none own) false ρ h).Sat Q := by
  refine v_compE e1 e2 (fun i acc h => P h ∧ acc = (items.take i).map f) ⟨h0, rfl⟩ (fun i x acc h hx hi => ?_) fun acc h hi => ?_
  · obtain ⟨p, rfl⟩ := hi
    have hm := List.mem_of_getElem? hx
    have hlt := (List.getElem?_eq_some_iff.mp hx).1
    obtain ⟨ρ1, q1, q2⟩ := hs x hm h p
    refine ⟨hk h p, ρ1, q1, ?_⟩
    rw [gc_none, sat_ok, if_pos rfl]
    refine q2.imp fun v h2 ⟨r1, r2⟩ => ⟨zaq (by simp; omega), r2, ?_⟩
    rw [r1, List.take_add_one, hx]
    simp
  · obtain ⟨p, rfl⟩ := hi
    refine ⟨hk h p, zaq (by simp; omega), ?_⟩
    rw [List.take_length]
    exact hd h p
theorem bools_map : ∀ bs : List Bool, boolsOf (bs.map PV.bl) = some bs
  | [] => rfl
  | b :: r => by
    show (boolsOf (r.map PV.bl)).map (b :: ·) = _
    rw [bools_map r]
    rfl
theorem all_ref {h : PH} {n : Nat} {bs : List Bool} (e : h[n]? = some (.lst (bs.map PV.bl))) : biF .all [.ref n] h = .ok (.bl (bs.all id)) h := by
  show (match (listOf h (.ref n)).bind boolsOf with | some bs => R.ok (PV.bl (bs.all id)) h | none => .no) = _
  have : (listOf h (.ref n)).bind boolsOf = some bs := by
    simp only [listOf, e, Option.bind_some, bools_map]
  rw [this]
theorem ty_ref {h : PH} {m : Nat} {l : List PV} (e : h[m]? = some (.lst l)) : tyOf h (.ref m) = some .list := by simp only [tyOf, e]
theorem bi_len_ref {h : PH} {n : Nat} {l : List PV} (e : h[n]? = some (.lst l)) : biF .len [.ref n] h = .ok (.int l.length) h := by
  show biLen [.ref n] h = _
  simp only [biLen, e]
end Sb
namespace Sb
open PySem
def fq (q : Rat) : PV := .tup [.int q.num, .int (q.den : Nat)]
def mq (a b : Rat) : PV := .tup [fq a, fq b]
theorem low_fq {t b : Int} (hb : b ≠ 0) : lowP t b = fq (Rat.divInt t b) := by
  unfold lowP fq
  rw [Rat.num_divInt, Rat.den_divInt, if_neg hb, Int.gcd_comm b t]
  have hg : (Int.gcd t b : Nat) ≠ 0 := fun z => hb (Int.gcd_eq_zero_iff.mp z).2
  have d1 : ((Int.gcd t b : Nat) : Int) ∣ t := Int.gcd_dvd_left ..
  have d2 : ((Int.gcd t b : Nat) : Int) ∣ b := Int.gcd_dvd_right ..
  generalize hgg : Int.gcd t b = g at hg d1 d2
  unfold byOf
  rw [hgg]
  obtain ⟨x, rfl⟩ := d1
  obtain ⟨y, rfl⟩ := d2
  have gz : (g : Int) ≠ 0 := by omega
  have gp : (0 : Int) < g := by omega
  by_cases hn : (g : Int) * y < 0
  · rw [if_pos hn]
    have yn : y < 0 := by
      rcases Int.lt_or_le y 0 with z | z
      · exact z
      · have := Int.mul_nonneg (Int.le_of_lt gp) z
        omega
    have e1 : ((g : Int) * x).fdiv (-(g : Int)) = -x := by
      rw [show (g : Int) * x = (-(g : Int)) * (-x) by rw [Int.neg_mul_neg]]
      exact Int.mul_fdiv_cancel_left _ (by omega)
    have e2 : ((g : Int) * y).fdiv (-(g : Int)) = -y := by
      rw [show (g : Int) * y = (-(g : Int)) * (-y) by rw [Int.neg_mul_neg]]
      exact Int.mul_fdiv_cancel_left _ (by omega)
    rw [e1, e2, Int.sign_eq_neg_one_of_neg hn]
    have e3 : (-1 : Int) * ((g : Int) * x) / (g : Int) = -x := by
      rw [show (-1 : Int) * ((g : Int) * x) = (g : Int) * (-x) by rw [Int.mul_neg]; omega]
      exact Int.mul_ediv_cancel_left _ gz
    have e4 : ((g : Int) * y).natAbs / g = y.natAbs := by
      rw [Int.natAbs_mul, Int.natAbs_natCast, Nat.mul_div_cancel_left _ (by omega)]
    rw [e3, e4]
    rw [show ((y.natAbs : Nat) : Int) = -y by omega]
  · rw [if_neg hn]
    have yz : y ≠ 0 := fun z => hb (by rw [z, Int.mul_zero])
    have yp : 0 < y := by
      rcases Int.lt_or_le 0 y with z | z
      · exact z
      · have : (g : Int) * (-y) > 0 := Int.mul_pos gp (by omega)
        rw [Int.mul_neg] at this
        omega
    have e1 : ((g : Int) * x).fdiv (g : Int) = x := Int.mul_fdiv_cancel_left _ gz
    have e2 : ((g : Int) * y).fdiv (g : Int) = y := Int.mul_fdiv_cancel_left _ gz
    rw [e1, e2, Int.sign_eq_one_of_pos (Int.mul_pos gp yp), Int.one_mul, Int.mul_ediv_cancel_left _ gz]
    have e4 : ((g : Int) * y).natAbs / g = y.natAbs := by
      rw [Int.natAbs_mul, Int.natAbs_natCast, Nat.mul_div_cancel_left _ (by omega)]
    rw [e4]
    rw [show ((y.natAbs : Nat) : Int) = y by omega]
/-- both numbers below 2 ^ n -/
structure Qs (n : Nat) (q : Rat) : Prop where
  num : q.num.natAbs < 2 ^ n
  den : q.den < 2 ^ n
theorem Qs.mono {n m : Nat} {q : Rat} (h : Qs n q) (l : n ≤ m) : Qs m q := ⟨Nat.lt_of_lt_of_le h.num (Nat.pow_le_pow_right (by decide) l), Nat.lt_of_lt_of_le h.den (Nat.pow_le_pow_right (by decide) l)⟩
theorem divInt_le {t b : Int} (hb : b ≠ 0) : (Rat.divInt t b).num.natAbs ≤ t.natAbs ∧ (Rat.divInt t b).den ≤ b.natAbs := by
  rw [Rat.num_divInt, Rat.den_divInt, if_neg hb]
  refine ⟨?_, Nat.div_le_self _ _⟩
  rcases Int.lt_or_lt_of_ne hb with z | z
  · rw [Int.sign_eq_neg_one_of_neg z]
    refine Nat.le_trans (Int.natAbs_ediv_le_natAbs _ _) ?_
    omega
  · rw [Int.sign_eq_one_of_pos z, Int.one_mul]
    exact Int.natAbs_ediv_le_natAbs _ _
theorem Qs.divInt {n : Nat} {t b : Int} (hb : b ≠ 0) (h1 : t.natAbs < 2 ^ n) (h2 : b.natAbs < 2 ^ n) : Qs n (Rat.divInt t b) := ⟨Nat.lt_of_le_of_lt (divInt_le hb).1 h1, Nat.lt_of_le_of_lt (divInt_le hb).2 h2⟩
theorem mul_lt_pow {a b n m : Nat} (h1 : a < 2 ^ n) (h2 : b < 2 ^ m) : a * b < 2 ^ (n + m) := by
  rw [Nat.pow_add]
  exact Nat.mul_lt_mul'' h1 h2
theorem den_ne (q : Rat) : ((q.den : Nat) : Int) ≠ 0 := by
  have := q.den_nz
  omega
theorem dd_ne (a b : Rat) : ((a.den : Nat) : Int) * ((b.den : Nat) : Int) ≠ 0 := Int.mul_ne_zero (den_ne a) (den_ne b)
theorem add_divInt (a b : Rat) : a + b = Rat.divInt (a.num * b.den + b.num * a.den) (a.den * b.den) := by
  rw [Rat.add_def', ← Rat.divInt_ofNat, Int.natCast_mul]
theorem sub_divInt (a b : Rat) : a - b = Rat.divInt (a.num * b.den - b.num * a.den) (a.den * b.den) := by
  rw [Rat.sub_def', ← Rat.divInt_ofNat, Int.natCast_mul]
theorem mul_divInt (a b : Rat) : a * b = Rat.divInt (a.num * b.num) (a.den * b.den) := by
  rw [Rat.mul_def', ← Rat.divInt_ofNat, Int.natCast_mul]
theorem div_divInt (a b : Rat) (hb : b.num ≠ 0) : a / b = Rat.divInt (a.num * b.den) (a.den * b.num) := by
  rw [Rat.div_def, Rat.inv_def]
  conv => lhs; rw [← Rat.num_divInt_den a]
  rw [Rat.divInt_mul_divInt]
section
variable {n m : Nat} {a b : Rat}
theorem Qs.nd (h : Qs n a) (g : Qs m b) : (a.num * (b.den : Int)).natAbs < 2 ^ (n + m) := by
  rw [Int.natAbs_mul]
  exact mul_lt_pow h.num (by simpa using g.den)
theorem Qs.nn (h : Qs n a) (g : Qs m b) : (a.num * b.num).natAbs < 2 ^ (n + m) := by
  rw [Int.natAbs_mul]
  exact mul_lt_pow h.num g.num
theorem Qs.dn (h : Qs n a) (g : Qs m b) : ((a.den : Int) * b.num).natAbs < 2 ^ (n + m) := by
  rw [Int.natAbs_mul]
  exact mul_lt_pow (by simpa using h.den) g.num
theorem Qs.dd (h : Qs n a) (g : Qs m b) : ((a.den : Int) * (b.den : Int)).natAbs < 2 ^ (n + m) := by
  rw [Int.natAbs_mul]
  exact mul_lt_pow (by simpa using h.den) (by simpa using g.den)
theorem pow_s (k : Nat) : 2 ^ (k + 1) = 2 ^ k + 2 ^ k := by rw [Nat.pow_succ]; omega
theorem Qs.add (h : Qs n a) (g : Qs m b) : Qs (n + m + 1) (a + b) := by
  rw [add_divInt]
  have h1 := h.nd g
  have h2 := g.nd h
  rw [Nat.add_comm m n] at h2
  have h3 := h.dd g
  have h4 := pow_s (n + m)
  exact .divInt (dd_ne a b) (by omega) (by omega)
theorem Qs.sub (h : Qs n a) (g : Qs m b) : Qs (n + m + 1) (a - b) := by
  rw [sub_divInt]
  have h1 := h.nd g
  have h2 := g.nd h
  rw [Nat.add_comm m n] at h2
  have h3 := h.dd g
  have h4 := pow_s (n + m)
  exact .divInt (dd_ne a b) (by omega) (by omega)
theorem Qs.mul (h : Qs n a) (g : Qs m b) : Qs (n + m) (a * b) := by
  rw [mul_divInt]
  exact .divInt (dd_ne a b) (h.nn g) (h.dd g)
theorem Qs.div (h : Qs n a) (g : Qs m b) (hb : b.num ≠ 0) : Qs (n + m) (a / b) := by
  rw [div_divInt a b hb]
  exact .divInt (Int.mul_ne_zero (den_ne a) hb) (h.nd g) (h.dn g)
theorem Qs.neg (h : Qs n a) : Qs n (-a) := ⟨by rw [Rat.neg_num, Int.natAbs_neg]; exact h.num, h.den⟩
theorem Qs.inv (h : Qs n a) (hb : a.num ≠ 0) : Qs n a⁻¹ := by
  rw [Rat.inv_def]
  exact .divInt hb (by simpa using h.den) h.num
theorem Qs.pos (h : Qs n a) : 0 < n := by
  cases n with
  | zero =>
    have := h.den
    have := a.den_nz
    omega
  | succ n => exact Nat.succ_pos _
end
theorem num_ne {q : Rat} (h : q ≠ 0) : q.num ≠ 0 := fun z => h (Rat.num_eq_zero.mp z)
theorem fq0 (q : Rat) (h : PH) : zcc (fq q) (.int 0) h = .ok (.int q.num) h := idx_tup rfl
theorem fq1 (q : Rat) (h : PH) : zcc (fq q) (.int 1) h = .ok (.int (q.den : Nat)) h := idx_tup rfl
theorem mq0 (a b : Rat) (h : PH) : zcc (mq a b) (.int 0) h = .ok (fq a) h := idx_tup rfl
theorem mq1 (a b : Rat) (h : PH) : zcc (mq a b) (.int 1) h = .ok (fq b) h := idx_tup rfl
theorem pow_8000 {x n : Nat} (h : x < 2 ^ n) (l : n ≤ 8000) : x < 2 ^ 8000 := Nat.lt_of_lt_of_le h (Nat.pow_le_pow_right (by decide) l)
section
variable {tbl : Nat → Fn}
theorem lowq (h9 : tbl 9 = F_law_lowest) {k : Nat} {h : PH} {t b : Int} (hb : b ≠ 0) (hs : b.natAbs < 2 ^ 8000) : call tbl (k + 1) 9 [.int t, .int b] h = .ok (fq (Rat.divInt t b)) h := by rw [lowest_eq h9 hb hs, low_fq hb]
theorem frac_eq (h0 : tbl 0 = F_common) (h15 : tbl 15 = F_fraction_of) {k : Nat} {h : PH} {t b : Int} (hb : b ≠ 0) (hs : b.natAbs < 2 ^ 8000) : call tbl (k + 2) 15 [.int t, .int b] h = .ok (fq (Rat.divInt t b)) h := by
  rw [← low_fq hb]
  refine R.Sat.eq ?_
  rw [zam, h15]
  refine zay rfl ?_
  simp only [F_fraction_of, zas, List.map, List.length, List.replicate, List.cons_append, List.nil_append]
  have dv : divOk (byOf t b) = true := div_ok (byOf_ne hb) (Nat.lt_of_le_of_lt (byOf_le hb) hs) (by decide) (by decide)
  rw [zai]
  simp [hb]
  rw [zai]
  simp [common_eq h0]
  rw [zai]
  by_cases hneg : b < 0
  · have e : byOf t b = -((Int.gcd t b : Nat) : Int) := by unfold byOf; rw [if_pos hneg]
    rw [e] at dv
    simp [hneg, b_fdiv, dv]
    simp [lowP, e]
  · have e : byOf t b = ((Int.gcd t b : Nat) : Int) := by unfold byOf; rw [if_neg hneg]
    rw [e] at dv
    simp [hneg, b_fdiv, dv]
    simp [lowP, e]
section
variable {k n m : Nat} {h : PH} {a b : Rat}
theorem mok (h : x.natAbs < 2 ^ n) (g : y.natAbs < 2 ^ m) (h0 : 0 < n) (g0 : 0 < m) (l : n + m ≤ 8000) : zc6 x y = true := mul_ok h g h0 g0 (by omega)
theorem plus_eq (h0 : tbl 0 = F_common) (h15 : tbl 15 = F_fraction_of) (h16 : tbl 16 = F_plus_of) (ha : Qs n a) (hb : Qs m b) (l : n + m ≤ 8000) : call tbl (k + 3) 16 [fq a, fq b] h = .ok (fq (a + b)) h := by
  refine R.Sat.eq ?_
  rw [zam, h16]
  refine zay rfl ?_
  simp only [F_plus_of, zas, List.map, List.length, List.replicate, List.cons_append, List.nil_append]
  have m1 : zc6 a.num (b.den : Nat) = true := mok ha.num (by simpa using hb.den) ha.pos hb.pos l
  have m2 : zc6 b.num (a.den : Nat) = true := mok hb.num (by simpa using ha.den) hb.pos ha.pos (by omega)
  have m3 : zc6 (a.den : Nat) (b.den : Nat) = true := mok (by simpa using ha.den) (by simpa using hb.den) ha.pos hb.pos l
  simp [fq0, fq1, b_mul m1, b_mul m2, b_mul m3, frac_eq h0 h15 (dd_ne a b) (pow_8000 (ha.dd hb) l), add_divInt]
theorem less_eq (h0 : tbl 0 = F_common) (h15 : tbl 15 = F_fraction_of) (h17 : tbl 17 = F_less_of) (ha : Qs n a) (hb : Qs m b) (l : n + m ≤ 8000) : call tbl (k + 3) 17 [fq a, fq b] h = .ok (fq (a - b)) h := by
  refine R.Sat.eq ?_
  rw [zam, h17]
  refine zay rfl ?_
  simp only [F_less_of, zas, List.map, List.length, List.replicate, List.cons_append, List.nil_append]
  have m1 : zc6 a.num (b.den : Nat) = true := mok ha.num (by simpa using hb.den) ha.pos hb.pos l
  have m2 : zc6 b.num (a.den : Nat) = true := mok hb.num (by simpa using ha.den) hb.pos ha.pos (by omega)
  have m3 : zc6 (a.den : Nat) (b.den : Nat) = true := mok (by simpa using ha.den) (by simpa using hb.den) ha.pos hb.pos l
  simp [fq0, fq1, b_mul m1, b_mul m2, b_mul m3, frac_eq h0 h15 (dd_ne a b) (pow_8000 (ha.dd hb) l), sub_divInt]
theorem times_eq (h0 : tbl 0 = F_common) (h15 : tbl 15 = F_fraction_of) (h18 : tbl 18 = F_times_of) (ha : Qs n a) (hb : Qs m b) (l : n + m ≤ 8000) : call tbl (k + 3) 18 [fq a, fq b] h = .ok (fq (a * b)) h := by
  refine R.Sat.eq ?_
  rw [zam, h18]
  refine zay rfl ?_
  simp only [F_times_of, zas, List.map, List.length, List.replicate, List.cons_append, List.nil_append]
  have m1 : zc6 a.num b.num = true := mok ha.num hb.num ha.pos hb.pos l
  have m3 : zc6 (a.den : Nat) (b.den : Nat) = true := mok (by simpa using ha.den) (by simpa using hb.den) ha.pos hb.pos l
  simp [fq0, fq1, b_mul m1, b_mul m3, frac_eq h0 h15 (dd_ne a b) (pow_8000 (ha.dd hb) l), mul_divInt]
theorem over_eq (h0 : tbl 0 = F_common) (h15 : tbl 15 = F_fraction_of) (h19 : tbl 19 = F_over_of) (ha : Qs n a) (hb : Qs m b) (hz : b.num ≠ 0) (l : n + m ≤ 8000) : call tbl (k + 3) 19 [fq a, fq b] h = .ok (fq (a / b)) h := by
  refine R.Sat.eq ?_
  rw [zam, h19]
  refine zay rfl ?_
  simp only [F_over_of, zas, List.map, List.length, List.replicate, List.cons_append, List.nil_append]
  have m1 : zc6 a.num (b.den : Nat) = true := mok ha.num (by simpa using hb.den) ha.pos hb.pos l
  have m3 : zc6 (a.den : Nat) b.num = true := mok (by simpa using ha.den) hb.num ha.pos hb.pos l
  rw [zai]
  simp [fq0, fq1, hz, b_mul m1, b_mul m3, frac_eq h0 h15 (Int.mul_ne_zero (den_ne a) hz) (pow_8000 (ha.dn hb) l), div_divInt a b hz]
theorem plusL_eq (h9 : tbl 9 = F_law_lowest) (h24 : tbl 24 = F_law_plus) (ha : Qs n a) (hb : Qs m b) (l : n + m ≤ 8000) : call tbl (k + 2) 24 [fq a, fq b] h = .ok (fq (a + b)) h := by
  refine R.Sat.eq ?_
  rw [zam, h24]
  refine zay rfl ?_
  simp only [F_law_plus, zas, List.map, List.length, List.replicate, List.cons_append, List.nil_append]
  have m1 : zc6 a.num (b.den : Nat) = true := mok ha.num (by simpa using hb.den) ha.pos hb.pos l
  have m2 : zc6 b.num (a.den : Nat) = true := mok hb.num (by simpa using ha.den) hb.pos ha.pos (by omega)
  have m3 : zc6 (a.den : Nat) (b.den : Nat) = true := mok (by simpa using ha.den) (by simpa using hb.den) ha.pos hb.pos l
  simp [fq0, fq1, b_mul m1, b_mul m2, b_mul m3, lowq h9 (dd_ne a b) (pow_8000 (ha.dd hb) l), add_divInt]
theorem timesL_eq (h9 : tbl 9 = F_law_lowest) (h25 : tbl 25 = F_law_times) (ha : Qs n a) (hb : Qs m b) (l : n + m ≤ 8000) : call tbl (k + 2) 25 [fq a, fq b] h = .ok (fq (a * b)) h := by
  refine R.Sat.eq ?_
  rw [zam, h25]
  refine zay rfl ?_
  simp only [F_law_times, zas, List.map, List.length, List.replicate, List.cons_append, List.nil_append]
  have m1 : zc6 a.num b.num = true := mok ha.num hb.num ha.pos hb.pos l
  have m3 : zc6 (a.den : Nat) (b.den : Nat) = true := mok (by simpa using ha.den) (by simpa using hb.den) ha.pos hb.pos l
  simp [fq0, fq1, b_mul m1, b_mul m3, lowq h9 (dd_ne a b) (pow_8000 (ha.dd hb) l), mul_divInt]
end
end
/-- the parts of a fraction, no greater than these -/
structure Bd (N M : Nat) (q : Rat) : Prop where
  num : q.num.natAbs ≤ N
  den : q.den ≤ M
theorem Bd.divInt {N M : Nat} {t b : Int} (hb : b ≠ 0) (h1 : t.natAbs ≤ N) (h2 : b.natAbs ≤ M) : Bd N M (Rat.divInt t b) := ⟨Nat.le_trans (divInt_le hb).1 h1, Nat.le_trans (divInt_le hb).2 h2⟩
theorem Bd.mul {N M N' M' : Nat} {a b : Rat} (h : Bd N M a) (g : Bd N' M' b) : Bd (N * N') (M * M') (a * b) := by
  rw [mul_divInt]
  refine .divInt (dd_ne a b) ?_ ?_
  · rw [Int.natAbs_mul]
    exact Nat.mul_le_mul h.num g.num
  · rw [Int.natAbs_mul]
    exact Nat.mul_le_mul h.den g.den
theorem Bd.nd {N M N' M' : Nat} {a b : Rat} (h : Bd N M a) (g : Bd N' M' b) : (a.num * (b.den : Int)).natAbs ≤ N * M' := by
  rw [Int.natAbs_mul]
  exact Nat.mul_le_mul h.num g.den
theorem Bd.add {N M N' M' : Nat} {a b : Rat} (h : Bd N M a) (g : Bd N' M' b) : Bd (N * M' + N' * M) (M * M') (a + b) := by
  rw [add_divInt]
  refine .divInt (dd_ne a b) (Nat.le_trans (Int.natAbs_add_le ..) (Nat.add_le_add (h.nd g) (g.nd h))) ?_
  rw [Int.natAbs_mul]
  exact Nat.mul_le_mul h.den g.den
theorem Bd.sub {N M N' M' : Nat} {a b : Rat} (h : Bd N M a) (g : Bd N' M' b) : Bd (N * M' + N' * M) (M * M') (a - b) := by
  rw [sub_divInt]
  refine .divInt (dd_ne a b) (Nat.le_trans (Int.natAbs_sub_le ..) (Nat.add_le_add (h.nd g) (g.nd h))) ?_
  rw [Int.natAbs_mul]
  exact Nat.mul_le_mul h.den g.den
theorem Bd.div {N M N' M' : Nat} {a b : Rat} (h : Bd N M a) (g : Bd N' M' b) (hb : b.num ≠ 0) : Bd (N * M') (M * N') (a / b) := by
  rw [div_divInt a b hb]
  refine .divInt (Int.mul_ne_zero (den_ne a) hb) (h.nd g) ?_
  rw [Int.natAbs_mul]
  exact Nat.mul_le_mul h.den g.num
theorem Bd.neg {N M : Nat} {a : Rat} (h : Bd N M a) : Bd N M (-a) := ⟨by rw [Rat.neg_num, Int.natAbs_neg]; exact h.num, h.den⟩
/-- at most twelve figures -/
structure NearQ (q : Rat) : Prop where
  num : q.num.natAbs < 1000000000000
  den : q.den < 1000000000000
theorem Bd.near {N M : Nat} {q : Rat} (h : Bd N M q) (h1 : N < 1000000000000) (h2 : M < 1000000000000) : NearQ q := ⟨Nat.lt_of_le_of_lt h.num h1, Nat.lt_of_le_of_lt h.den h2⟩
end Sb
namespace Sb
open PySem
/-- two things that the laws call the same, down to d levels -/
def sameP (h : PH) : Nat → PV → PV → Prop
  | _, .non, .non => True
  | _, .bl a, .bl b => a = b
  | _, .int a, .int b => a = b
  | _, .str a, .str b => a = b
  | d + 1, .tup l, .tup k => l.length = k.length ∧ l.length ≤ 1000000 ∧ ∀ (i : Nat) x y, l[i]? = some x → k[i]? = some y → sameP h d x y
  | d + 1, .ref m, .ref n => ∃ l k, h[m]? = some (.lst l) ∧ h[n]? = some (.lst k) ∧ l.length = k.length ∧ l.length ≤ 1000000 ∧ ∀ (i : Nat) x y, l[i]? = some x → k[i]? = some y → sameP h d x y
  | _, _, _ => False
theorem sameP.app {h t : PH} : ∀ {d : Nat} {v w : PV}, sameP h d v w → sameP (h ++ t) d v w
  | d, .non, w, s => by cases d <;> cases w <;> first | trivial | exact s.elim
  | d, .bl _, w, s => by cases d <;> cases w <;> first | exact s | exact s.elim
  | d, .int _, w, s => by cases d <;> cases w <;> first | exact s | exact s.elim
  | d, .str _, w, s => by cases d <;> cases w <;> first | exact s | exact s.elim
  | 0, .tup _, w, s => by cases w <;> exact s.elim
  | 0, .ref _, w, s => by cases w <;> exact s.elim
  | d, .cl _, w, s => by cases d <;> cases w <;> exact s.elim
  | d, .ty _, w, s => by cases d <;> cases w <;> exact s.elim
  | d, .cls _, w, s => by cases d <;> cases w <;> exact s.elim
  | d, .ste _, w, s => by cases d <;> cases w <;> exact s.elim
  | d, .xc _ _ _, w, s => by cases d <;> cases w <;> exact s.elim
  | d + 1, .tup l, w, s => by
    cases w with
    | tup k => exact ⟨s.1, s.2.1, fun i x y h1 h2 => (s.2.2 i x y h1 h2).app⟩
    | _ => exact s.elim
  | d + 1, .ref m, w, s => by
    cases w with
    | ref n =>
      obtain ⟨l, k, e1, e2, e3, e4, e5⟩ := s
      refine ⟨l, k, ?_, ?_, e3, e4, fun i x y h1 h2 => (e5 i x y h1 h2).app⟩
      · rw [List.getElem?_append_left (List.getElem?_eq_some_iff.mp e1).1]; exact e1
      · rw [List.getElem?_append_left (List.getElem?_eq_some_iff.mp e2).1]; exact e2
    | _ => exact s.elim
theorem zip_get : ∀ {l k : List PV} {x : PV} {i : Nat}, (zipP l k)[i]? = some x → ∃ a b, x = .tup [a, b] ∧ l[i]? = some a ∧ k[i]? = some b
  | [], k, x, i, e => by
    rw [show zipP [] k = [] by cases k <;> rfl] at e
    simp at e
  | _ :: _, [], x, i, e => by
    rw [show zipP (_ :: _) [] = [] from rfl] at e
    simp at e
  | a :: l, b :: k, x, 0, e => by
    rw [show zipP (a :: l) (b :: k) = .tup [a, b] :: zipP l k from rfl] at e
    simp at e
    exact ⟨a, b, e.symm, rfl, rfl⟩
  | a :: l, b :: k, x, i + 1, e => by
    rw [show zipP (a :: l) (b :: k) = .tup [a, b] :: zipP l k from rfl] at e
    simp at e
    obtain ⟨a', b', e1, e2, e3⟩ := zip_get e
    exact ⟨a', b', e1, by simpa using e2, by simpa using e3⟩
theorem zip_len : ∀ {l k : List PV}, (zipP l k).length ≤ l.length
  | [], k => by cases k <;> exact Nat.le_refl _
  | _ :: _, [] => Nat.zero_le _
  | a :: l, b :: k => Nat.succ_le_succ zip_len
theorem mem_get {α : Type} {l : List α} {x : α} (h : x ∈ l) : ∃ i : Nat, l[i]? = some x := by
  obtain ⟨i, hi, e⟩ := List.mem_iff_getElem.mp h
  exact ⟨i, List.getElem?_eq_some_iff.mpr ⟨hi, e⟩⟩
section
variable {tbl : Nat → Fn}
theorem same_sat (h7 : tbl 7 = F_law_same) : ∀ {d k : Nat} {h : PH} {v w : PV} {Q : PV → PH → Prop} (s : sameP h d v w) (q : ∀ t, Q (.bl true) (h ++ t)), (call tbl (k + d + 1) 7 [v, w] h).Sat Q := by
  intro d
  induction d with
  | zero =>
    intro k h v w Q s q
    have q0 : Q (.bl true) h := by simpa using q []
    rw [zam, h7]
    refine zay rfl ?_
    simp only [F_law_same, zas, List.map, List.length, List.replicate, List.cons_append, List.nil_append]
    cases v <;> cases w <;> first | exact s.elim | skip
    all_goals simp [sameP] at s
    all_goals try subst s
    all_goals simp [zai, biF, zbh, tyOf, tysOf, isTy, isNonP, q0]
  | succ d ih =>
    intro k h v w Q s q
    have q0 : Q (.bl true) h := by simpa using q []
    rw [zam, h7]
    refine zay rfl ?_
    simp only [F_law_same, zas, List.map, List.length, List.replicate, List.cons_append, List.nil_append]
    have go : ∀ (vw : List PV) (kp : Keep) (l m : List PV) (ρ : Env), evGs (call tbl (k + (d + 1))) [(.var 0), (.var 1)] ρ h = .ok vw h → zcm .zip vw h = some (zipP l m, kp) → zbn kp h → l.length ≤ 1000000 → (∀ (i : Nat) x y, l[i]? = some x → m[i]? = some y → sameP h d x y) → (∀ a b, ∃ ρ1, zbo (zbi ρ [2, 3]) [2, 3] .tup (.tup [a, b]) = some ρ1 ∧ ρ1.get 2 = some a ∧ ρ1.get 3 = some b) →
        (evG (call tbl (k + (d + 1))) (.bi .all [(.comp (.call 7 [(.var 2), (.var 3)] []) [2, 3] .tup .zip [(.var 0), (.var 1)] none [2, 3])]) false ρ h).Sat Q := by
      intro vw kp l m ρ e1 e2 hk hl hs hρ
      simp
      refine v_mapE e1 e2 (fun _ => .bl true) (fun h' => ∃ t, h' = h ++ t) ⟨[], by simp⟩ (fun h' e y hy => ?_) (Nat.le_trans zip_len hl) (fun x hx h' e => ?_) fun h' e => ?_
      · obtain ⟨t, rfl⟩ := e
        have := hk y hy
        rw [List.getElem?_append_left (List.getElem?_eq_some_iff.mp this).1]
        exact this
      · obtain ⟨t, rfl⟩ := e
        obtain ⟨i, hi⟩ := mem_get hx
        obtain ⟨a, b, rfl, ea, eb⟩ := zip_get hi
        obtain ⟨ρ1, p1, p2, p3⟩ := hρ a b
        refine ⟨ρ1, p1, ?_⟩
        simp [p2, p3]
        have := ih (k := k) (h := h ++ t) (Q := fun v h2 => v = .bl true ∧ ∃ t, h2 = h ++ t) (hs i a b ea eb).app fun t2 => ⟨rfl, t ++ t2, by simp⟩
        exact this
      · obtain ⟨t, e0⟩ := e
        have e : (h' ++ [PO.lst ((zipP l m).map fun _ => PV.bl true)])[h'.length]? = some (.lst (((zipP l m).map fun _ => true).map PV.bl)) := by simp
        rw [all_ref e]
        rw [e0]
        have := q (t ++ [PO.lst ((zipP l m).map fun _ => PV.bl true)])
        have at_ : ((zipP l m).all fun _ => true) = true := by simp
        simpa [at_] using this
    cases v with
    | tup l =>
      cases w with
      | tup m =>
        obtain ⟨s1, s2, s3⟩ := s
        rw [zai]
        simp [biF, zbh, tyOf, tysOf, isTy]
        rw [zai]
        simp [biF, zbh, tyOf, tysOf, isTy]
        rw [zai]
        simp [biF, zbh, tyOf, tysOf, isTy, biLen, zbw, s1]
        have := go [.tup l, .tup m] [] l m [some (.tup l), some (.tup m), none, none] (by simp) rfl (zbu _) s2 s3 fun a b => ⟨_, rfl, rfl, rfl⟩
        simpa [biF] using this
      | _ => exact s.elim
    | ref m =>
      cases w with
      | ref n =>
        obtain ⟨l, m', e1, e2, s1, s2, s3⟩ := s
        rw [zai]
        simp [biF, zbh, tyOf, tysOf, isTy, e1, e2]
        rw [zai]
        simp [biF, zbh, tyOf, tysOf, isTy, e1, e2]
        rw [zai]
        simp [biF, zbh, tyOf, tysOf, isTy, biLen, zbw, s1, e1, e2]
        have := go [.ref m, .ref n] [(m, l), (n, m')] l m' [some (.ref m), some (.ref n), none, none] (by simp) (by show walkZip [.ref m, .ref n] h = _; simp only [walkZip, e1, e2]) (fun y hy => by
          simp only [List.mem_cons, List.not_mem_nil, or_false] at hy
          rcases hy with rfl | rfl
          · exact e1
          · exact e2) s2 s3 fun a b => ⟨_, rfl, rfl, rfl⟩
        simpa [biF] using this
      | _ => exact s.elim
    | cl l => cases w <;> exact s.elim
    | ty l => cases w <;> exact s.elim
    | ste l => cases w <;> exact s.elim
    | cls l => cases w <;> exact s.elim
    | xc l a b => cases w <;> exact s.elim
    | _ =>
      cases w <;> first | exact s.elim | skip
      all_goals simp [sameP] at s
      all_goals try subst s
      all_goals simp [zai, biF, zbh, tyOf, tysOf, isTy, isNonP, q0]
end
section
variable {tbl : Nat → Fn} {k n m o : Nat} {h : PH} {a b c d x : Rat}
/-- the defs of fractions and moves -/
structure TM (tbl : Nat → Fn) : Prop where
  h0 : tbl 0 = F_common
  h15 : tbl 15 = F_fraction_of
  h16 : tbl 16 = F_plus_of
  h17 : tbl 17 = F_less_of
  h18 : tbl 18 = F_times_of
  h19 : tbl 19 = F_over_of
  h20 : tbl 20 = F_stretch_by
  h21 : tbl 21 = F_read_by
  h22 : tbl 22 = F_move_then
  h23 : tbl 23 = F_move_back
structure TL (tbl : Nat → Fn) : Prop where
  h9 : tbl 9 = F_law_lowest
  h24 : tbl 24 = F_law_plus
  h25 : tbl 25 = F_law_times
  h26 : tbl 26 = F_law_led
  h27 : tbl 27 = F_law_then
  h28 : tbl 28 = F_law_back
theorem stretch_eq (t : TM tbl) (ha : Qs n a) (hx : Qs m x) (l : n + m ≤ 8000) : call tbl (k + 4) 20 [mq a b, fq x] h = .ok (fq (a * x)) h := by
  refine R.Sat.eq ?_
  rw [zam, t.h20]
  refine zay rfl ?_
  simp only [F_stretch_by, zas, List.map, List.length, List.replicate, List.cons_append, List.nil_append]
  simp [mq0, times_eq t.h0 t.h15 t.h18 ha hx l]
theorem read_eq (t : TM tbl) (ha : Qs n a) (hb : Qs o b) (hx : Qs m x) (l : n + m + o ≤ 8000) : call tbl (k + 5) 21 [mq a b, fq x] h = .ok (fq (a * x + b)) h := by
  refine R.Sat.eq ?_
  rw [zam, t.h21]
  refine zay rfl ?_
  simp only [F_read_by, zas, List.map, List.length, List.replicate, List.cons_append, List.nil_append]
  simp [mq1, stretch_eq t ha hx (by omega), plus_eq t.h0 t.h15 t.h16 (ha.mul hx) hb l]
theorem then_eq (t : TM tbl) (ha : Qs n a) (hb : Qs n b) (hc : Qs m c) (hd : Qs m d) (l : m + n + m ≤ 8000) : call tbl (k + 6) 22 [mq a b, mq c d] h = .ok (mq (c * a) (c * b + d)) h := by
  refine R.Sat.eq ?_
  rw [zam, t.h22]
  refine zay rfl ?_
  simp only [F_move_then, zas, List.map, List.length, List.replicate, List.cons_append, List.nil_append]
  simp [mq0, mq1, times_eq t.h0 t.h15 t.h18 hc ha (by omega), read_eq t hc hd hb (by omega)]
  rfl
theorem q1 : Qs 1 1 := ⟨by decide, by decide⟩
theorem q0 : Qs 1 0 := ⟨by decide, by decide⟩
theorem back_eq (t : TM tbl) (ha : Qs n a) (hb : Qs m b) (hz : a ≠ 0) (l : m + n + 2 ≤ 8000) : call tbl (k + 4) 23 [mq a b] h = .ok (mq (1 / a) ((0 - b) / a)) h := by
  refine R.Sat.eq ?_
  rw [zam, t.h23]
  refine zay rfl ?_
  simp only [F_move_back, zas, List.map, List.length, List.replicate, List.cons_append, List.nil_append]
  rw [zai]
  simp [mq, zbx]
  have e1 : (PV.tup [.int 1, .int 1]) = fq 1 := rfl
  have e0 : (PV.tup [.int 0, .int 1]) = fq 0 := rfl
  rw [e1, e0]
  simp [over_eq t.h0 t.h15 t.h19 q1 ha (num_ne hz) (by omega), less_eq t.h0 t.h15 t.h17 q0 hb (by omega), over_eq t.h0 t.h15 t.h19 (q0.sub hb) ha (num_ne hz) (by omega)]
theorem ledL_eq (t : TL tbl) (ha : Qs n a) (hb : Qs o b) (hx : Qs m x) (l : n + m + o ≤ 8000) : call tbl (k + 3) 26 [mq a b, fq x] h = .ok (fq (a * x + b)) h := by
  refine R.Sat.eq ?_
  rw [zam, t.h26]
  refine zay rfl ?_
  simp only [F_law_led, zas, List.map, List.length, List.replicate, List.cons_append, List.nil_append]
  simp [mq0, mq1, timesL_eq t.h9 t.h25 ha hx (by omega), plusL_eq t.h9 t.h24 (ha.mul hx) hb l]
theorem thenL_eq (t : TL tbl) (ha : Qs n a) (hb : Qs n b) (hc : Qs m c) (hd : Qs m d) (l : m + n + m ≤ 8000) : call tbl (k + 4) 27 [mq a b, mq c d] h = .ok (mq (c * a) (c * b + d)) h := by
  refine R.Sat.eq ?_
  rw [zam, t.h27]
  refine zay rfl ?_
  simp only [F_law_then, zas, List.map, List.length, List.replicate, List.cons_append, List.nil_append]
  simp [mq0, mq1, timesL_eq t.h9 t.h25 hc ha (by omega), ledL_eq t hc hd hb (by omega)]
  rfl
theorem backL_eq (t : TL tbl) (ha : Qs n a) (hb : Qs m b) (hz : a ≠ 0) (l : m + n + 2 ≤ 8000) : call tbl (k + 3) 28 [mq a b] h = .ok (mq (1 / a) ((0 - b) / a)) h := by
  refine R.Sat.eq ?_
  rw [zam, t.h28]
  refine zay rfl ?_
  simp only [F_law_back, zas, List.map, List.length, List.replicate, List.cons_append, List.nil_append]
  rw [zai]
  simp [mq0, mq1, fq0, fq1, lowq t.h9 (t := (a.den : Int)) (num_ne hz) (pow_8000 ha.num (by omega)), ← Rat.inv_def]
  have e : (PV.tup [.int (-b.num), .int (b.den : Nat)]) = fq (-b) := rfl
  have e' : (PV.tup [.int (0 - b.num), .int (b.den : Nat)]) = fq (-b) := by rw [Int.zero_sub]; rfl
  simp only [e, e']
  simp [timesL_eq t.h9 t.h25 (ha.inv (num_ne hz)) hb.neg (by omega)]
  unfold mq
  rw [show a⁻¹ * -b = (0 - b) / a by grind, show a⁻¹ = 1 / a by grind]
end
end Sb
namespace Sb
open PySem
theorem St.lt {h : PH} {s g c B : Nat} (st : St h s g c B) : s < h.length ∧ g < h.length ∧ c < h.length := by
  obtain ⟨gr, cur, cs, cnt, e1, e2, e3, r⟩ := st.ex
  exact ⟨(List.getElem?_eq_some_iff.mp e1).1, (List.getElem?_eq_some_iff.mp e2).1, (List.getElem?_eq_some_iff.mp e3).1⟩
theorem Fr.setNew {S : List Nat} {h h1 : PH} {m : Nat} {o : PO} (f : Fr S h h1) (hm : h.length ≤ m) : Fr S h (h1.set m o) := ⟨by rw [List.length_set]; exact f.len, fun n hn hl => by
  rw [List.getElem?_set_ne (by omega)]
  exact f.at_ n hn hl⟩
theorem Fr.appNew {S : List Nat} {h h1 t : PH} (f : Fr S h h1) : Fr S h (h1 ++ t) := f.trans Fr.app
theorem St.setNew {h : PH} {s g c B m : Nat} {o : PO} (st : St h s g c B) (h1 : m ≠ s) (h2 : m ≠ g) (h3 : m ≠ c) : St (h.set m o) s g c B :=
  st.frame (S := [m]) (Fr.set (by simp)) (by simp; omega) (by simp; omega) (by simp; omega)
section
variable {C : Calls} {t : Bool} {ρ : Env} {h : PH} {a b c : E}
@[simp] theorem g_srt : evG C (.srt a) t ρ h = fin t ((evG C a false ρ h).bind fun x h1 => srtop x h1) := by rfl
@[simp] theorem g_dct (es : List E) : evG C (.dct es) t ρ h = fin t ((evGs C es ρ h).bind fun l h1 => match pairUp l with | some l => allocD (zbv [] l) h1 | none => .no) := by rfl
end
abbrev tlS (x : Str) : List Nat := x.cps.toList
theorem tlS_add (x y : Str) : tlS (x ++ y) = tlS x ++ tlS y := by
  show (x.cps ++ y.cps).toList = _
  simp
theorem len_tl (x : Str) : x.length = (tlS x).length := by
  show x.cps.size = _
  simp
/-- a small text of small letters -/
structure Nm (x : Str) : Prop where
  len : (tlS x).length ≤ 8
  pos : 0 < (tlS x).length
  low : ∀ c ∈ tlS x, 97 ≤ c ∧ c ≤ 122
theorem Nm.ok {x : Str} (n : Nm x) : zch x = true := by
  unfold zch
  rw [Array.all_eq_true_iff_forall_mem]
  intro c hc
  have := n.low c (by simpa [tlS] using hc)
  exact decide_eq_true (by omega)
theorem strs_map : ∀ xs : List Str, zcy (xs.map PV.str) = some xs
  | [] => rfl
  | x :: r => by
    show (zcy (r.map PV.str)).map (x :: ·) = _
    rw [strs_map r]
    rfl
theorem joinL_ones : ∀ cs : List Nat, TL.joinL [] (cs.map fun c => [c]) = cs
  | [] => rfl
  | [_] => rfl
  | a :: b :: r => by
    show [a] ++ ([] ++ TL.joinL [] ((b :: r).map fun c => [c])) = _
    rw [joinL_ones (b :: r)]
    rfl
theorem join_ones (cs : List Nat) : tlS (Txt.join ("" : Str) (cs.map fun c => ⟨#[c]⟩)) = cs := by
  rw [TL.join_eq]
  show TL.tl _ = cs
  rw [TL.tl_join, List.map_map]
  exact joinL_ones cs
def T25 : List Nat := tlS ("abcdefghijklmnopqrstuvxyz" : Str)
theorem t25 : T25 = [97, 98, 99, 100, 101, 102, 103, 104, 105, 106, 107, 108, 109, 110, 111, 112, 113, 114, 115, 116, 117, 118, 120, 121, 122] := by decide +kernel
theorem t25_nd : T25.Nodup := by rw [t25]; decide
theorem t25_len : T25.length = 25 := by rw [t25]; rfl
theorem t25_low : ∀ c ∈ T25, 97 ≤ c ∧ c ≤ 122 ∧ c ≠ 119 := by rw [t25]; decide
theorem t3 : tlS ("abz" : Str) = [97, 98, 122] := by decide +kernel
theorem idx_str {h : PH} {x : Str} {i : Int} {c : Nat} (hx : (tlS x).length ≤ 1000000) (e : L2.atI (tlS x) i = some c) : zcc (.str x) (.int i) h = .ok (.str ⟨#[c]⟩) h := by
  show (if za3 x.length then (match L2.atI x.cps.toList i with | some c => R.ok (PV.str ⟨#[c]⟩) h | none => .no) else .no) = _
  rw [if_pos (zaq (by rw [len_tl]; exact hx)), show L2.atI x.cps.toList i = some c from e]
theorem b_addS {h : PH} {x y : Str} (e : (tlS x).length + (tlS y).length ≤ 1000000) : binop .Add (.str x) (.str y) h = .ok (.str (x ++ y)) h := by
  show (if za3 (x.length + y.length) then _ else _) = _
  rw [if_pos (zaq (by rw [len_tl, len_tl]; exact e))]
theorem sum_ones (cs : List Nat) : ((cs.map fun c => (⟨#[c]⟩ : Str)).map (·.length)).sum = cs.length := by
  induction cs with
  | nil => rfl
  | cons a r ih =>
    rw [List.map_cons, List.map_cons, List.sum_cons, ih]
    show 1 + _ = _
    simp
    omega
theorem mt_join_ones {h : PH} {n : Nat} {cs : List Nat} (e : h[n]? = some (.lst (cs.map fun c => PV.str ⟨#[c]⟩))) (hl : cs.length ≤ 1000000) : mtF .join (.str "") [.ref n] h = .ok (.str (Txt.join ("" : Str) (cs.map fun c => ⟨#[c]⟩))) h := by
  have e2 : (listOf h (.ref n)).bind zcy = some (cs.map fun c => ⟨#[c]⟩) := by
    simp only [listOf, e, Option.bind_some]
    rw [show (cs.map fun c => PV.str ⟨#[c]⟩) = (cs.map fun c => (⟨#[c]⟩ : Str)).map PV.str by simp]
    exact strs_map _
  show (match (listOf h (.ref n)).bind zcy with | some ys => if (ys.map fun (y : Str) => y.length).sum + ys.length * ("" : Str).length ≤ 1000000 then R.ok (PV.str (Txt.join ("" : Str) ys)) h else .no | none => .no) = _
  rw [e2]
  show (if _ then _ else _) = _
  rw [if_pos]
  rw [sum_ones]
  have : ("" : Str).length = 0 := by decide +kernel
  rw [this]
  omega
theorem mapO_some {α β : Type} {f : α → Option β} {g : α → β} : ∀ {l : List α}, (∀ x ∈ l, f x = some (g x)) → mapO f l = some (l.map g)
  | [], _ => rfl
  | a :: r, q => by
    unfold mapO
    rw [q a (List.mem_cons_self ..), mapO_some fun x hx => q x (List.mem_cons_of_mem _ hx)]
    rfl
theorem pd_str {h : PH} {d : Nat} {x : Str} (n : zch x = true) : pd h d (.str x) = some (.str x) := by
  cases d <;> simp [pd, n]
theorem in_strs {h : PH} {n : Nat} {x : Str} {ns : List Str} (e : h[n]? = some (.lst (ns.map PV.str))) (hx : zch x = true) (hn : ∀ y ∈ ns, zch y = true) : zbd .In (.str x) (.ref n) h = .ok (.bl (decide (x ∈ ns))) h := by
  show ofO ((inP h (.str x) (.ref n)).map PV.bl) h = _
  have : inP h (.str x) (.ref n) = some (decide (x ∈ ns)) := by
    simp only [inP, e, inSeqP]
    have m : mapO (pd h 8) (ns.map PV.str) = some (ns.map PyData.str) := by
      have := mapO_some (f := pd h 8) (l := ns.map PV.str) (g := fun v => match v with | .str y => PyData.str y | _ => .none) (fun v hv => by
        obtain ⟨y, hy, rfl⟩ := List.mem_map.mp hv
        exact pd_str (hn y hy))
      rw [this]
      simp
    rw [m, pd_str hx]
    show some ((ns.map PyData.str).any fun z => PyData.eqv z (.str x)) = _
    congr 1
    rw [Bool.eq_iff_iff, List.any_eq_true, decide_eq_true_iff]
    constructor
    · rintro ⟨z, hz, e⟩
      obtain ⟨y, hy, rfl⟩ := List.mem_map.mp hz
      have : (y == x) = true := by simpa [PyData.eqv] using e
      rw [← eq_of_beq this]
      exact hy
    · intro hx
      exact ⟨.str x, List.mem_map.mpr ⟨x, hx, rfl⟩, by simp [PyData.eqv]⟩
  rw [this]
  rfl
section
variable {tbl : Nat → Fn}
/-- a word of drawn letters -/
theorem word_sat (h5 : tbl 5 = F_law_mix) (h6 : tbl 6 = F_law_draw) {k : Nat} {h : PH} {s g c B w : Nat} (st : St h s g c B) {e0 : E} {X : Str} {ρ : Env} {m : Nat} (hm : (tlS X).length = m) (m0 : 0 < m) (m1 : m ≤ 100) (hw : 0 < w) (hw1 : w ≤ 8) (hlow : ∀ c ∈ tlS X, 97 ≤ c ∧ c ≤ 122 ∧ c ≠ 119) (hρ : ρ.get 0 = some (.ref s)) (hB : B + 8 * (w + 1) ≤ 2 ^ 20)
    (he : ∀ v h, ∃ ρ1, zbo (zbi ρ [6]) [6] .one v = some ρ1 ∧ ρ1.get 0 = some (.ref s) ∧ evG (call tbl (k + 2)) e0 false ρ1 h = .ok (.str X) h) {Q : PV → PH → Prop}
    (q : ∀ x h', (0 < (tlS x).length ∧ (tlS x).length ≤ w) → (∀ c ∈ tlS x, 97 ≤ c ∧ c ≤ 122 ∧ c ≠ 119) → St h' s g c (B + 8 * (w + 1)) → Fr [s, g] h h' → Q (.str x) h') :
    (evG (call tbl (k + 2)) (.mth .join (.lit (.str "")) [(.comp (.idx e0 (.call 6 [(.var 0), (.lit (.int (m : Nat)))] [])) [6] .one .range [(.bin .Add (.lit (.int 1)) (.call 6 [(.var 0), (.lit (.int (w : Nat)))] []))] none [6])]) false ρ h).Sat Q := by
  have ty : ∀ h, tyOf h (.str "") = some MT.join.ty := fun _ => rfl
  simp [ty]
  refine v_comp ?_
  simp [hρ]
  refine zbg h5 h6 st (by omega) (by omega) (by omega) fun r h1 r0 r1 st1 fr1 l1 => ?_
  have rr : zcm .range [.int (1 + r)] h1 = some (rangeP (1 + r), []) := by
    show (if _ then _ else _) = _
    rw [if_pos (by constructor <;> omega)]
  refine ⟨rangeP (1 + r), [], rr, fun i acc h' => ∃ cs : List Nat, acc = (cs.map fun c => PV.str ⟨#[c]⟩) ∧ cs.length = i ∧ (∀ c ∈ cs, 97 ≤ c ∧ c ≤ 122 ∧ c ≠ 119) ∧ St h' s g c (B + 8 + 8 * i) ∧ Fr [s, g] h h', ⟨[], rfl, rfl, by simp, st1, fr1⟩, ?_, ?_⟩
  · intro i x acc h2 hx ⟨cs, ea, el, eg, st2, fr2⟩
    have hi : i < (1 + r).toNat := by
      have := (List.getElem?_eq_some_iff.mp hx).1
      unfold rangeP at this
      simpa using this
    obtain ⟨ρ1, p1, p2, p3⟩ := he x h2
    refine ⟨zbu _, ρ1, p1, ?_⟩
    simp [p3, p2]
    refine zbg h5 h6 st2 (by omega) (by omega) (by omega) fun j h3 j0 j1 st3 fr3 l3 => ?_
    obtain ⟨y, hy⟩ : ∃ y, (tlS X)[j.toNat]? = some y := ⟨_, List.getElem?_eq_getElem (by omega)⟩
    rw [idx_str (by omega) (at_pos j0 hy)]
    refine ⟨zaq (by rw [ea]; simp; omega), cs ++ [y], by rw [ea]; simp, by simp; omega, fun z hz => ?_, st3.up (by omega), fr2.trans fr3⟩
    rcases List.mem_append.mp hz with z1 | z1
    · exact eg z z1
    · rw [List.mem_singleton.mp z1]
      exact hlow y (List.mem_of_getElem? hy)
  · intro acc h2 ⟨cs, ea, el, eg, st2, fr2⟩
    have hi : cs.length = (1 + r).toNat := by
      rw [el]
      unfold rangeP
      simp
    refine ⟨zbu _, zaq (by rw [ea]; simp; omega), ?_⟩
    subst ea
    rw [mt_join_ones (cs := cs) (by simp) (by omega)]
    refine q _ _ (by rw [join_ones]; exact ⟨by omega, by omega⟩) (by rw [join_ones]; exact eg) ?_ fr2.appNew
    refine St.app (st2.up ?_)
    rw [← el, hi]
    omega
end
end Sb
namespace Sb
open PySem
/-- the names made so far: unlike, small, and where a name holds a w it is of a number below i -/
structure Nms (ns : List Str) : Prop where
  nd : ns.Nodup
  nm : ∀ x ∈ ns, Nm x
  w3 : ∀ x ∈ ns, 119 ∉ tlS x ∨ (tlS x).length = 3
structure NmsI (i : Nat) (ns : List Str) : Prop extends Nms ns where
  len : ns.length = i
  w : ∀ x ∈ ns, 119 ∉ tlS x ∨ ∃ j a b, j < i ∧ tlS x = [119, a, b] ∧ T25[j / 25]? = some a ∧ T25[j % 25]? = some b
theorem NmsI.add {i : Nat} {ns : List Str} {x : Str} (n : NmsI i ns) (hx : x ∉ ns) (h1 : Nm x) (h2 : 119 ∉ tlS x ∨ ∃ j a b, j < i + 1 ∧ tlS x = [119, a, b] ∧ T25[j / 25]? = some a ∧ T25[j % 25]? = some b) : NmsI (i + 1) (ns ++ [x]) := by
  refine ⟨⟨?_, fun y hy => ?_, fun y hy => ?_⟩, by simp [n.len], fun y hy => ?_⟩
  · rw [List.nodup_append]
    refine ⟨n.nd, by simp, fun a ha b hb => ?_⟩
    rw [List.mem_singleton.mp hb]
    rintro rfl
    exact hx ha
  · rcases List.mem_append.mp hy with z | z
    · exact n.nm y z
    · rw [List.mem_singleton.mp z]
      exact h1
  · rcases List.mem_append.mp hy with z | z
    · exact n.w3 y z
    · rw [List.mem_singleton.mp z]
      rcases h2 with z | ⟨j, a, b, _, z2, _⟩
      · exact .inl z
      · exact .inr (by rw [z2]; rfl)
  · rcases List.mem_append.mp hy with z | z
    · rcases n.w y z with z | ⟨j, a, b, z1, z2⟩
      · exact .inl z
      · exact .inr ⟨j, a, b, by omega, z2⟩
    · rw [List.mem_singleton.mp z]
      exact h2
theorem NmsI.fresh {i : Nat} {ns : List Str} {x : Str} {a b : Nat} (n : NmsI i ns) (e : tlS x = [119, a, b]) (ha : T25[i / 25]? = some a) (hb : T25[i % 25]? = some b) : x ∉ ns := by
  intro hx
  rcases n.w x hx with z | ⟨j, a', b', z1, z2, z3, z4⟩
  · exact z (by rw [e]; simp)
  · rw [e] at z2
    simp only [List.cons.injEq, and_true, true_and] at z2
    obtain ⟨rfl, rfl⟩ := z2
    have l1 := (List.getElem?_eq_some_iff.mp ha).1
    have l2 := (List.getElem?_eq_some_iff.mp hb).1
    have e1 := (List.getElem?_inj l1 t25_nd).mp (ha.trans z3.symm)
    have e2 := (List.getElem?_inj l2 t25_nd).mp (hb.trans z4.symm)
    omega
section
variable {tbl : Nat → Fn}
theorem names_sat (h5 : tbl 5 = F_law_mix) (h6 : tbl 6 = F_law_draw) (h34 : tbl 34 = F_law_names) {k : Nat} {h : PH} {s g c B many : Nat} {mi : Int} (hmi : mi = (many : Nat)) (st : St h s g c B) (hm : many ≤ 600) (hB : B + 120 * many ≤ 2 ^ 20) {Q : PV → PH → Prop}
    (q : ∀ ns h', h'[h.length]? = some (.lst (ns.map PV.str)) → ns.length = many → Nms ns → St h' s g c (B + 120 * many) → Fr [s, g] h h' → Q (.ref h.length) h') : (call tbl (k + 3) 34 [.ref s, .int mi] h).Sat Q := by
  rw [zam, h34]
  refine zay rfl ?_
  obtain ⟨lt1, lt2, lt3⟩ := st.lt
  simp only [F_law_names, zas, List.map, List.length, List.replicate, List.cons_append, List.nil_append]
  rw [zai]
  simp
  rw [zai]
  simp [zaw]
  rw [zai]
  have rr : ∀ h1, zcm .range [.int mi] h1 = some (rangeP mi, []) := fun h1 => by
    show (if _ then _ else _) = _
    rw [if_pos (by constructor <;> omega)]
  have rl : (rangeP mi).length = many := by rw [hmi]; simp [rangeP]
  refine x_forE (l := [.int mi]) (h1 := h ++ [.lst []]) (by simp) (rr _) (fun i ρ h' => ∃ (o1 o2 : Option PV) (ns : List Str), ρ = [some (.ref s), some (.int mi), some (.str "abcdefghijklmnopqrstuvxyz"), some (.ref h.length), o1, o2, none] ∧ h'[h.length]? = some (.lst (ns.map PV.str)) ∧ NmsI i ns ∧ St h' s g c (B + 120 * i) ∧ Fr [s, g] h h') ⟨none, none, [], rfl, by simp, ⟨⟨by simp, by simp, by simp⟩, rfl, by simp⟩, st.app, Fr.app⟩ ?_ ?_
  · rintro i x ρ h1 hx ⟨o1, o2, ns, rfl, e1, nn, st1, fr1⟩
    have hi : i < many := by
      have := (List.getElem?_eq_some_iff.mp hx).1
      rwa [rl] at this
    have ex : x = .int (i : Nat) := by
      unfold rangeP at hx
      rw [List.getElem?_map, List.getElem?_range (by omega)] at hx
      simpa using hx.symm
    subst ex
    refine ⟨zbu _, _, rfl, ?_⟩
    simp only [List.set]
    -- the end: the name is kept
    have last : ∀ (x : Str) (h2 : PH) (o : Option PV) (B2 : Nat), x ∉ ns → Nm x → (119 ∉ tlS x ∨ ∃ j a b, j < i + 1 ∧ tlS x = [119, a, b] ∧ T25[j / 25]? = some a ∧ T25[j % 25]? = some b) → h2[h.length]? = some (.lst (ns.map PV.str)) → St h2 s g c B2 → B2 ≤ B + 120 * (i + 1) → Fr [s, g] h h2 →
        (exSs (call tbl (k + 2)) [.ex (.mth .append (.var 3) [(.var 5)])] [some (.ref s), some (.int mi), some (.str "abcdefghijklmnopqrstuvxyz"), some (.ref h.length), some (.int (i : Nat)), some (.str x), none] h2).Sat (fun ρ h' => ∃ (o1 o2 : Option PV) (ns : List Str), ρ = [some (.ref s), some (.int mi), some (.str "abcdefghijklmnopqrstuvxyz"), some (.ref h.length), o1, o2, none] ∧ h'[h.length]? = some (.lst (ns.map PV.str)) ∧ NmsI (i + 1) ns ∧ St h' s g c (B + 120 * (i + 1)) ∧ Fr [s, g] h h') (fun v h => Q v h) := by
      intro x h2 o B2 hx hn hw e2 st2 hb2 fr2
      have ty : tyOf h2 (.ref h.length) = some .list := ty_ref e2
      have ap : mtF .append (.ref h.length) [.str x] h2 = .ok .non (h2.set h.length (.lst (ns.map PV.str ++ [.str x]))) := by
        simp only [mtF, mtAppend, e2]
        rw [if_pos (zaq (by rw [List.length_map, nn.len]; omega))]
      simp [ty, MT.ty, ap]
      refine ⟨ns ++ [x], by rw [set_at e2]; simp, nn.add hx hn hw, (st2.setNew (by omega) (by omega) (by omega)).up hb2, fr2.setNew (Nat.le_refl _)⟩
    -- behind the drawn name
    have mid : ∀ (x : Str) (h2 : PH) (B2 : Nat), Nm x → 119 ∉ tlS x → h2[h.length]? = some (.lst (ns.map PV.str)) → St h2 s g c B2 → B2 ≤ B + 120 * (i + 1) → Fr [s, g] h h2 →
        (exSs (call tbl (k + 2)) [.ifs (.cmp .In (.var 5) (.var 3)) [.asg (.nm 5) (.bin .Add (.bin .Add (.lit (.str "w")) (.idx (.var 2) (.bin .FloorDiv (.var 4) (.lit (.int 25))))) (.idx (.var 2) (.bin .Mod (.var 4) (.lit (.int 25)))))] [],
  .ex (.mth .append (.var 3) [(.var 5)])] [some (.ref s), some (.int mi), some (.str "abcdefghijklmnopqrstuvxyz"), some (.ref h.length), some (.int (i : Nat)), some (.str x), none] h2).Sat (fun ρ h' => ∃ (o1 o2 : Option PV) (ns : List Str), ρ = [some (.ref s), some (.int mi), some (.str "abcdefghijklmnopqrstuvxyz"), some (.ref h.length), o1, o2, none] ∧ h'[h.length]? = some (.lst (ns.map PV.str)) ∧ NmsI (i + 1) ns ∧ St h' s g c (B + 120 * (i + 1)) ∧ Fr [s, g] h h') (fun v h => Q v h) := by
      intro x h2 B2 hn hw e2 st2 hb2 fr2
      have ii := in_strs e2 hn.ok fun y hy => (nn.nm y hy).ok
      rw [zai]
      simp [ii]
      by_cases hx : x ∈ ns
      · simp [hx]
        have dv : divOk 25 = true := by decide
        have b1 := b_fdiv (h := h2) (i := ((i : Nat) : Int)) dv
        have b2 := b_mod (h := h2) (i := ((i : Nat) : Int)) (show (25 : Int) ≠ 0 by decide)
        rw [fdiv_pos (by decide)] at b1
        rw [fmod_pos (by decide)] at b2
        have L : (tlS ("abcdefghijklmnopqrstuvxyz" : Str)).length = 25 := t25_len
        obtain ⟨a, ha⟩ : ∃ a, T25[i / 25]? = some a := ⟨_, List.getElem?_eq_getElem (by rw [t25_len]; omega)⟩
        obtain ⟨b, hb⟩ : ∃ a, T25[i % 25]? = some a := ⟨_, List.getElem?_eq_getElem (by rw [t25_len]; omega)⟩
        have i1 : zcc (.str "abcdefghijklmnopqrstuvxyz") (.int ((i : Int) / 25)) h2 = .ok (.str ⟨#[a]⟩) h2 := idx_str (by omega) (by
          rw [show ((i : Int) / 25) = ((i / 25 : Nat) : Int) by omega]
          exact at_nat ha)
        have i2 : zcc (.str "abcdefghijklmnopqrstuvxyz") (.int ((i : Int) % 25)) h2 = .ok (.str ⟨#[b]⟩) h2 := idx_str (by omega) (by
          rw [show ((i : Int) % 25) = ((i % 25 : Nat) : Int) by omega]
          exact at_nat hb)
        have w1 : tlS ("w" : Str) = [119] := by decide +kernel
        have s1 : binop .Add (.str "w") (.str ⟨#[a]⟩) h2 = .ok (.str ("w" ++ ⟨#[a]⟩)) h2 := b_addS (by rw [w1]; exact Nat.le_of_ble_eq_true rfl)
        have w2 : tlS (("w" : Str) ++ (⟨#[a]⟩ : Str)) = [119, a] := by rw [tlS_add, w1]; rfl
        have s2 : binop .Add (.str (("w" : Str) ++ ⟨#[a]⟩)) (.str ⟨#[b]⟩) h2 = .ok (.str (("w" : Str) ++ ⟨#[a]⟩ ++ ⟨#[b]⟩)) h2 := b_addS (by rw [w2]; exact Nat.le_of_ble_eq_true rfl)
        have w3 : tlS (("w" : Str) ++ (⟨#[a]⟩ : Str) ++ (⟨#[b]⟩ : Str)) = [119, a, b] := by rw [tlS_add, w2]; rfl
        have la := t25_low a (List.mem_of_getElem? ha)
        have lb := t25_low b (List.mem_of_getElem? hb)
        simp [b1, b2, i1, i2, s1, s2]
        have := last (("w" : Str) ++ (⟨#[a]⟩ : Str) ++ (⟨#[b]⟩ : Str)) h2 none B2 (nn.fresh w3 ha hb) ⟨by rw [w3]; exact Nat.le_of_ble_eq_true rfl, by rw [w3]; exact Nat.le_of_ble_eq_true rfl, by
          rw [w3]
          simp
          omega⟩ (.inr ⟨i, a, b, by omega, w3, ha, hb⟩) e2 st2 hb2 fr2
        simpa using this
      · simp [hx]
        have := last x h2 none B2 hx hn (.inl hw) e2 st2 hb2 fr2
        simpa using this
    have l3 : ∀ c ∈ tlS ("abz" : Str), 97 ≤ c ∧ c ≤ 122 ∧ c ≠ 119 := by rw [t3]; decide
    rw [zai, x_set]
    refine word_sat h5 h6 (m := 3) (w := 3) (X := "abz") st1 (by rw [t3]; rfl) (by decide) (by decide) (by decide) (by decide) l3 rfl (by omega) (fun v h => ⟨_, rfl, rfl, rfl⟩) fun x h2 x1 x2 st2 fr2 => ?_
    simp only [List.set]
    have e2 := fr2.some (n := h.length) (by simp; omega) e1
    have f2 := fr1.trans fr2
    rw [zai]
    generalize hbr : [S.asg (.nm 5) (.mth .join (.lit (.str "")) [(.comp (.idx (.var 2) (.call 6 [(.var 0), (.lit (.int 25))] [])) [6] .one .range [(.bin .Add (.lit (.int 1)) (.call 6 [(.var 0), (.lit (.int 8))] []))] none [6])])] = br
    simp
    refine zbg h5 h6 st2 (by omega) (by decide) (by decide) fun r h3 r0 r1 st3 fr3 lh3 => ?_
    have e3 := fr3.some (n := h.length) (by simp; omega) e2
    have f3 := f2.trans fr3
    by_cases hr : r = 1
    · simp [hr]
      rw [← hbr, x_one, x_set]
      refine word_sat h5 h6 (k := k) (ρ := [some (.ref s), some (.int mi), some (.str "abcdefghijklmnopqrstuvxyz"), some (.ref h.length), some (.int (i : Nat)), some (.str x), none]) (e0 := .var 2) (m := 25) (w := 8) (X := "abcdefghijklmnopqrstuvxyz") st3 t25_len (by decide) (by decide) (by decide) (by decide) t25_low rfl (by omega) (fun v h => ⟨_, rfl, rfl, rfl⟩) fun x h4 x1 x2 st4 fr4 => ?_
      have := mid x h4 _ ⟨by omega, by omega, fun c hc => ⟨(x2 c hc).1, (x2 c hc).2.1⟩⟩ (fun z => (x2 _ z).2.2 rfl) (fr4.some (n := h.length) (by simp; omega) e3) st4 (by omega) (f3.trans fr4)
      simpa using this
    · simp [hr]
      have := mid x h3 _ ⟨by omega, by omega, fun c hc => ⟨(x2 c hc).1, (x2 c hc).2.1⟩⟩ (fun z => (x2 _ z).2.2 rfl) e3 st3 (by omega) f3
      simpa using this
  · rintro ρ h1 ⟨o1, o2, ns, rfl, e1, nn, st1, fr1⟩
    refine ⟨zbu _, ?_⟩
    simp
    rw [rl] at nn st1
    exact q ns h1 e1 nn.len nn.toNms st1 fr1
end
end Sb
namespace Sb
open PySem
theorem find_map_put {k k' : L2.Key} {v : PV} : ∀ l : List (L2.Key × PV), (l.map fun kv => if kv.1 = k then (kv.1, v) else kv).find? (fun kv => decide (kv.1 = k')) = if k' = k then (l.find? fun kv => decide (kv.1 = k)).map fun kv => (kv.1, v) else l.find? fun kv => decide (kv.1 = k')
  | [] => by simp
  | (a, b) :: r => by
    rw [List.map_cons]
    by_cases e : a = k
    · subst e
      by_cases e2 : k' = a
      · subst e2
        simp
      · have : ¬ a = k' := fun z => e2 z.symm
        simp [e2, this]
        have ih := find_map_put (k := a) (k' := k') (v := v) r
        simpa [e2] using ih
    · have ih := find_map_put (k := k) (k' := k') (v := v) r
      simp only [if_neg e]
      by_cases e3 : a = k'
      · subst e3
        simp [e]
      · simp only [List.find?_cons, e3, decide_false, e]
        exact ih
theorem zbz (l : List (L2.Key × PV)) (k k' : L2.Key) (v : PV) : valP (putP l k v) k' = if k' = k then some v else valP l k' := by
  unfold putP valP
  by_cases c : (l.any fun kv => decide (kv.1 = k)) = true
  · rw [if_pos c, find_map_put]
    by_cases e : k' = k
    · rw [if_pos e, if_pos e]
      obtain ⟨x, hx, ex⟩ := List.any_eq_true.mp c
      cases hf : l.find? fun kv => decide (kv.1 = k) with
      | none =>
        have := List.find?_eq_none.mp hf x hx
        exact absurd ex this
      | some y => rfl
    · rw [if_neg e, if_neg e]
  · rw [if_neg c, List.find?_append]
    by_cases e : k' = k
    · subst e
      have : l.find? (fun kv => decide (kv.1 = k')) = none := by
        rw [List.find?_eq_none]
        intro x hx z
        exact c (List.any_eq_true.mpr ⟨x, hx, z⟩)
      rw [this]
      simp
    · have : ¬ k = k' := fun z => e z.symm
      rw [if_neg e]
      simp [this]
theorem put_len (l : List (L2.Key × PV)) (k : L2.Key) (v : PV) : (putP l k v).length ≤ l.length + 1 := by
  unfold putP
  split
  · simp
  · simp
/-- a scale's move in a world -/
structure Wb (q : Rat) : Prop where
  qs : Qs 12 q
  top : q.num.natAbs ≤ 999
  bot : q.den ≤ 99
theorem Wb.bd {q : Rat} (w : Wb q) : Bd 999 99 q := ⟨w.top, w.bot⟩
theorem Wb.divInt {t b : Int} (hb : b ≠ 0) (h1 : t.natAbs ≤ 999) (h2 : b.natAbs ≤ 99) : Wb (Rat.divInt t b) := ⟨Qs.divInt hb (by omega) (by omega), (Bd.divInt hb h1 h2).num, (Bd.divInt hb h1 h2).den⟩
def InW (d : List (L2.Key × PV)) (x : Str) : Prop := ∃ a b, valP d (.inr x) = some (mq a b) ∧ a ≠ 0 ∧ Wb a ∧ Wb b
theorem divInt_ne {t b : Int} (ht : t ≠ 0) (hb : b ≠ 0) : Rat.divInt t b ≠ 0 := fun z => by
  rw [← Rat.zero_divInt 1] at z
  have := (Rat.divInt_eq_divInt_iff hb (by decide)).mp z
  omega
section
variable {tbl : Nat → Fn}
theorem world_sat (h5 : tbl 5 = F_law_mix) (h6 : tbl 6 = F_law_draw) (h9 : tbl 9 = F_law_lowest) (h35 : tbl 35 = F_law_world) {k : Nat} {h : PH} {s g c B p : Nat} {ns : List Str} (st : St h s g c B) (hp : h[p]? = some (.lst (ns.map PV.str))) (ps : p ≠ s) (pg : p ≠ g) (hn : ns.length ≤ 1000) (hB : B + 8 + 40 * ns.length ≤ 2 ^ 20) {Q : PV → PH → Prop}
    (q : ∀ n d h', h'[n]? = some (.dct d) → h.length ≤ n → (∀ x ∈ ns, InW d x) → St h' s g c (B + 8 + 40 * ns.length) → Fr [s, g] h h' → Q (.ref n) h') : (call tbl (k + 3) 35 [.ref s, .ref p] h).Sat Q := by
  rw [zam, h35]
  refine zay rfl ?_
  obtain ⟨lt1, lt2, lt3⟩ := st.lt
  have ltp := (List.getElem?_eq_some_iff.mp hp).1
  simp only [F_law_world, zas, List.map, List.length, List.replicate, List.cons_append, List.nil_append]
  rw [zai]
  simp [zaw]
  refine zbg h5 h6 (st.app (t := [.lst [.int 3, .int 9, .int 999]])) (by omega) (by decide) (by decide) fun r h1 r0 r1 st1 fr1 l1 => ?_
  have el : h1[h.length]? = some (.lst [.int 3, .int 9, .int 999]) := fr1.some (n := h.length) (by simp; omega) (by simp)
  have f1 : Fr [s, g] h h1 := Fr.app.trans fr1
  obtain ⟨sz, hsz, z0, z1⟩ : ∃ sz : Int, [PV.int 3, .int 9, .int 999][r.toNat]? = some (.int sz) ∧ 3 ≤ sz ∧ sz ≤ 999 := by
    have : r = 0 ∨ r = 1 ∨ r = 2 := by omega
    rcases this with rfl | rfl | rfl
    · exact ⟨3, rfl, by decide, by decide⟩
    · exact ⟨9, rfl, by decide, by decide⟩
    · exact ⟨999, rfl, by decide, by decide⟩
  rw [idx_ref el (at_pos r0 hsz)]
  simp
  rw [zai, x_set]
  simp [pairUp, zbv, allocD]
  rw [zai]
  have hp1 : (h1 ++ [PO.dct []])[p]? = some (.lst (ns.map PV.str)) := (f1.appNew (t := [PO.dct []])).some (by simp [ps, pg]) hp
  have ww : zcm .seq [.ref p] (h1 ++ [PO.dct []]) = some (ns.map PV.str, [(p, ns.map PV.str)]) := by
    simp only [zcm, walkSeq, hp1]
  refine x_forE (l := [.ref p]) (h1 := h1 ++ [.dct []]) (by simp) ww (fun i ρ h' => ∃ (o1 o2 o3 o4 : Option PV) (d : List (L2.Key × PV)), ρ = [some (.ref s), some (.ref p), some (.int sz), some (.ref h1.length), o1, o2, o3, o4] ∧ h'[h1.length]? = some (.dct d) ∧ d.length ≤ i ∧ (∀ x ∈ ns.take i, InW d x) ∧ St h' s g c (B + 8 + 40 * i) ∧ Fr [s, g] h h') ⟨none, none, none, none, [], rfl, by simp, Nat.le_refl _, by simp, st1.app, f1.appNew⟩ ?_ ?_
  · rintro i x ρ h2 hx ⟨o1, o2, o3, o4, d, rfl, e2, dl, dw, st2, fr2⟩
    have hx0 := hx
    rw [List.getElem?_map] at hx
    obtain ⟨y, hy, rfl⟩ := Option.map_eq_some_iff.mp hx
    have hi := (List.getElem?_eq_some_iff.mp hy).1
    have hp2 := fr2.some (n := p) (by simp [ps, pg]) hp
    have hh1 := f1.len
    refine ⟨fun z hz => ?_, _, rfl, ?_⟩
    · rw [List.mem_singleton.mp hz]
      exact hp2
    simp only [List.set]
    rw [zai]
    simp
    refine zbg h5 h6 st2 (by omega) (by decide) (by decide) fun r1 h3 r10 r11 st3 fr3 l3 => ?_
    have m1 : zc6 2 r1 = true := mul_ok (a := 2) (b := 2) (by decide) (by omega) (by decide) (by decide) (by decide)
    simp [b_mul m1]
    rw [zai]
    simp
    refine zbg h5 h6 st3 (by omega) (by omega) (by omega) fun r2 h4 r20 r21 st4 fr4 l4 => ?_
    have m2 : zc6 (1 - 2 * r1) (1 + r2) = true := mul_ok (a := 2) (b := 10) (by omega) (by omega) (by decide) (by decide) (by decide)
    have mn : ∀ h, biF .min2 [.int sz, .int 99] h = .ok (.int (min sz 99)) h := fun h => by
      show R.ok (PV.int (if (99 : Int) < sz then 99 else sz)) h = _
      congr 2
      split <;> omega
    simp [b_mul m2, mn]
    refine zbg h5 h6 st4 (by omega) (by omega) (by omega) fun r3 h5' r30 r31 st5 fr5 l5 => ?_
    have t0 : (1 - 2 * r1) * (1 + r2) ≠ 0 := Int.mul_ne_zero (by omega) (by omega)
    have t1 : ((1 - 2 * r1) * (1 + r2)).natAbs ≤ 999 := by
      rw [Int.natAbs_mul]
      have a1 : (1 - 2 * r1).natAbs = 1 := by omega
      rw [a1]
      omega
    have b8 : (2 : Nat) ^ 12 ≤ 2 ^ 8000 := Nat.pow_le_pow_right (by decide) (by decide)
    have la := lowq h9 (k := k + 1) (h := h5') (t := (1 - 2 * r1) * (1 + r2)) (b := 1 + r3) (by omega) (by omega)
    simp [la]
    rw [zai]
    have m3 : zc6 2 sz = true := mul_ok (a := 2) (b := 10) (by decide) (by omega) (by decide) (by decide) (by decide)
    simp [b_mul m3]
    refine zbg h5 h6 st5 (by omega) (by omega) (by omega) fun r4 h6' r40 r41 st6 fr6 l6 => ?_
    simp [mn]
    refine zbg h5 h6 st6 (by omega) (by omega) (by omega) fun r5 h7 r50 r51 st7 fr7 l7 => ?_
    have lb := lowq h9 (k := k + 1) (h := h7) (t := r4 - sz) (b := 1 + r5) (by omega) (by omega)
    simp [lb]
    have f7 : Fr [s, g] h2 h7 := fr3.trans (fr4.trans (fr5.trans (fr6.trans fr7)))
    have e7 := f7.some (n := h1.length) (by simp; omega) e2
    have so : ∀ v, setop (.ref h1.length) (.str y) v h7 = some (h7.set h1.length (.dct (putP d (.inr y) v))) := fun v => by
      simp only [setop, e7, zce]
      rw [if_pos (zaq (by omega))]
    simp [so]
    refine ⟨putP d (.inr y) (.tup [fq (Rat.divInt ((1 - 2 * r1) * (1 + r2)) (1 + r3)), fq (Rat.divInt (r4 - sz) (1 + r5))]), set_at e7, Nat.le_trans (put_len ..) (by omega), fun x hx => ?_, (st7.setNew (by omega) (by omega) (by omega)).up (by omega), (fr2.trans f7).setNew hh1⟩
    by_cases e : x = y
    · subst e
      refine ⟨_, _, by rw [zbz, if_pos rfl]; rfl, divInt_ne t0 (by omega), Wb.divInt (by omega) t1 (by omega), Wb.divInt (by omega) (by omega) (by omega)⟩
    · rw [List.take_add_one, hy] at hx
      have hx' : x ∈ ns.take i := by
        rcases List.mem_append.mp hx with z | z
        · exact z
        · exact absurd (by simpa using z) e
      obtain ⟨a, b, z1, z2⟩ := dw x hx'
      refine ⟨a, b, ?_, z2⟩
      rw [zbz, if_neg (by simpa using e)]
      exact z1
  · rintro ρ h2 ⟨o1, o2, o3, o4, d, rfl, e2, dl, dw, st2, fr2⟩
    rw [List.length_map] at dw st2
    rw [List.take_length] at dw
    refine ⟨fun z hz => ?_, ?_⟩
    · rw [List.mem_singleton.mp hz]
      exact fr2.some (n := p) (by simp [ps, pg]) hp
    simp
    exact q _ d h2 e2 f1.len dw st2 fr2
end
end Sb
namespace Sb
open PySem
structure Tel where
  name : Str
  st : Str
  en : Str
  a : Rat
  b : Rat
  tr : Int
  deriving DecidableEq
def Tel.pv (t : Tel) : PV := .tup [.str t.name, .str t.st, .str t.en, mq t.a t.b, .int t.tr]
structure TelOk (ns : List Str) (t : Tel) : Prop where
  st : t.st ∈ ns
  en : t.en ∈ ns
  a0 : t.a ≠ 0
  qa : Qs 38 t.a
  qb : Qs 60 t.b
  t0 : 0 ≤ t.tr
  t1 : t.tr ≤ 10 ^ 12
  na : NearQ t.a
  nb : NearQ t.b
/-- .. also told the other way about -/
structure TelW (ns : List Str) (t : Tel) : Prop where
  st : t.st ∈ ns
  en : t.en ∈ ns
  a0 : t.a ≠ 0
  qa : Qs 40 t.a
  qb : Qs 100 t.b
  t0 : 0 ≤ t.tr
theorem TelOk.w {ns : List Str} {t : Tel} (o : TelOk ns t) : TelW ns t := ⟨o.st, o.en, o.a0, o.qa.mono (by decide), o.qb.mono (by decide), o.t0⟩
theorem idx_dct {h : PH} {n : Nat} {d : List (L2.Key × PV)} {x : Str} {v : PV} (e : h[n]? = some (.dct d)) (e2 : valP d (.inr x) = some v) : zcc (.ref n) (.str x) h = .ok v h := by
  simp only [zcc, e, zce, e2, ofO_some]
theorem mt_append {h : PH} {n : Nat} {l : List PV} {v : PV} (e : h[n]? = some (.lst l)) (hl : l.length < 1000000) : mtF .append (.ref n) [v] h = .ok .non (h.set n (.lst (l ++ [v]))) := by
  simp only [mtF, mtAppend, e]
  rw [if_pos (zaq (by omega))]
theorem zbf {h : PH} {n : Nat} {l : List PV} (e : h[n]? = some (.lst l)) : zcm .seq [.ref n] h = some (l, [(n, l)]) := by simp only [zcm, walkSeq, e]
theorem zav {h : PH} {n : Nat} {l : List PV} (e : h[n]? = some (.lst l)) : zbn [(n, l)] h := fun z hz => by
  rw [List.mem_singleton.mp hz]
  exact e
section
variable {tbl : Nat → Fn}
/-- the defs of the draws -/
structure TD (tbl : Nat → Fn) : Prop where
  h5 : tbl 5 = F_law_mix
  h6 : tbl 6 = F_law_draw
  h34 : tbl 34 = F_law_names
  h35 : tbl 35 = F_law_world
  h36 : tbl 36 = F_law_tellings
theorem tellings_sat (td : TD tbl) (tl : TL tbl) {k : Nat} {h : PH} {s g c B p many : Nat} {mi : Int} (hmi : mi = (many : Nat)) {ns : List Str} (st : St h s g c B) (hp : h[p]? = some (.lst (ns.map PV.str))) (ps : p ≠ s) (pg : p ≠ g) (hn0 : 0 < ns.length) (hn : ns.length ≤ 600) (hm : many ≤ 600) (hB : B + 24 + 80 * ns.length + 160 * many ≤ 2 ^ 20) {Q : PV → PH → Prop}
    (q : ∀ n (ts : List Tel) h', h'[n]? = some (.lst (ts.map Tel.pv)) → h.length ≤ n → ts.length = many → Nms (ts.map Tel.name) → (∀ t ∈ ts, TelOk ns t) → St h' s g c (B + 24 + 80 * ns.length + 160 * many) → Fr [s, g] h h' → Q (.ref n) h') : (call tbl (k + 5) 36 [.ref s, .ref p, .int mi] h).Sat Q := by
  rw [zam, td.h36]
  refine zay rfl ?_
  obtain ⟨lt1, lt2, lt3⟩ := st.lt
  have ltp := (List.getElem?_eq_some_iff.mp hp).1
  simp only [F_law_tellings, zas, List.map, List.length, List.replicate, List.cons_append, List.nil_append]
  rw [zai, x_set]
  simp
  refine world_sat td.h5 td.h6 tl.h9 td.h35 (k := k + 1) st hp ps pg (by omega) (by omega) fun w1 d1 h1 ew1 lw1 dw1 st1 fr1 => ?_
  try simp
  refine world_sat td.h5 td.h6 tl.h9 td.h35 (k := k + 1) st1 (fr1.some (by simp [ps, pg]) hp) ps pg (by omega) (by omega) fun w2 d2 h2 ew2 lw2 dw2 st2 fr2 => ?_
  have ew12 := fr2.some (n := w1) (by simp; omega) ew1
  simp [zaw]
  have f2 : Fr [s, g] h (h2 ++ [PO.lst [.ref w1, .ref w2]]) := (fr1.trans fr2).appNew
  rw [zai, x_set]
  have p1 : powOk 10 11 = true := by decide
  simp [zaw, b_pow p1]
  have hl2 : h.length ≤ h2.length := Nat.le_trans fr1.len fr2.len
  refine zbg td.h5 td.h6 (st2.app (t := [PO.lst [.ref w1, .ref w2], PO.lst [.int 1, .int 2, .int 4, .int 100000000000]])) (by omega) (by decide) (by decide) fun r h3 r0 r1 st3 fr3 l3 => ?_
  have el : h3[h2.length + 1]? = some (.lst [.int 1, .int 2, .int 4, .int 100000000000]) := fr3.some (n := h2.length + 1) (by simp; omega) (by simp)
  obtain ⟨sz, hsz, z0, z1⟩ : ∃ sz : Int, [PV.int 1, .int 2, .int 4, .int 100000000000][r.toNat]? = some (.int sz) ∧ 1 ≤ sz ∧ sz ≤ 10 ^ 11 := by
    have : r = 0 ∨ r = 1 ∨ r = 2 ∨ r = 3 := by omega
    rcases this with rfl | rfl | rfl | rfl
    · exact ⟨1, rfl, by decide, by decide⟩
    · exact ⟨2, rfl, by decide, by decide⟩
    · exact ⟨4, rfl, by decide, by decide⟩
    · exact ⟨100000000000, rfl, by decide, by decide⟩
  rw [idx_ref el (at_pos r0 hsz)]
  simp
  rw [zai]
  simp [zaw]
  have f3 : Fr [s, g] h (h3 ++ [PO.lst []]) := ((fr1.trans fr2).trans (Fr.app.trans fr3)).appNew
  have l3' : h3.length = h2.length + 2 := by rw [l3]; simp
  rw [zai]
  refine x_for ?_
  simp
  refine names_sat td.h5 td.h6 td.h34 (k := k + 1) (many := many) hmi (st3.app (t := [PO.lst []])) hm (by omega) fun nms h4 en ln nn st4 fr4 => ?_
  have len4 : (h3 ++ [PO.lst []]).length = h3.length + 1 := by simp
  rw [len4] at en ⊢
  have e4f : h4[h3.length]? = some (.lst []) := fr4.some (n := h3.length) (by simp; omega) (by simp)
  have e4w : h4[h2.length]? = some (.lst [.ref w1, .ref w2]) := fr4.some (n := h2.length) (by simp; omega) (by
    rw [List.getElem?_append_left (by omega)]
    exact fr3.some (n := h2.length) (by simp; omega) (by simp))
  have w1l := (List.getElem?_eq_some_iff.mp ew12).1
  have w2l := (List.getElem?_eq_some_iff.mp ew2).1
  have h1l := fr1.len
  have to4 : ∀ n o, n < h2.length → n ≠ s → n ≠ g → h2[n]? = some o → h4[n]? = some o := fun n o hn n1 n2 e => by
    refine fr4.some (n := n) (by simp [n1, n2]) ?_
    rw [List.getElem?_append_left (by omega)]
    refine fr3.some (n := n) (by simp [n1, n2]) ?_
    rw [List.getElem?_append_left (by omega)]
    exact e
  have e4w1 := to4 w1 _ w1l (by omega) (by omega) ew12
  have e4w2 := to4 w2 _ w2l (by omega) (by omega) ew2
  have f4 : Fr [s, g] h h4 := f3.trans fr4
  have e4p := f4.some (n := p) (by simp [ps, pg]) hp
  have enl := (List.getElem?_eq_some_iff.mp en).1
  obtain ⟨I, hI⟩ : ∃ I : Nat → Env → PH → Prop, I = fun i ρ h' => ∃ (o1 o2 o3 o4 o5 o6 o7 : Option PV) (ts : List Tel), ρ = [some (.ref s), some (.ref p), some (.int mi), some (.ref h2.length), some (.int sz), some (.ref h3.length), o1, o2, o3, o4, o5, o6, o7] ∧ h'[h3.length]? = some (.lst (ts.map Tel.pv)) ∧ ts.map Tel.name = nms.take i ∧ (∀ t ∈ ts, TelOk ns t) ∧ St h' s g c (B + 24 + 80 * ns.length + 120 * many + 40 * i) ∧ Fr [s, g] h h' ∧ Fr [s, g, h3.length] h4 h' := ⟨_, rfl⟩
  refine ⟨_, _, zbf en, I, ?_, ?_, ?_⟩
  · rw [hI]
    exact ⟨none, none, none, none, none, none, none, [], rfl, e4f, by simp, by simp, st4.up (by omega), f4, Fr.refl _ _⟩
  · intro i x ρ h5 hx hi
    rw [hI] at hi
    obtain ⟨o1, o2, o3, o4, o5, o6, o7, ts, rfl, e5, tn, tok, st5, fr5, gr5⟩ := hi
    rw [List.getElem?_map] at hx
    obtain ⟨y, hy, rfl⟩ := Option.map_eq_some_iff.mp hx
    have hi := (List.getElem?_eq_some_iff.mp hy).1
    have e5n := gr5.some (n := h3.length + 1) (by simp; omega) en
    refine ⟨zav e5n, _, rfl, ?_⟩
    simp only [List.set]
    have e5p := gr5.some (n := p) (by simp; omega) e4p
    have bl : ∀ h', h'[p]? = some (.lst (ns.map PV.str)) → biF .len [.ref p] h' = .ok (.int ns.length) h' := fun h' e => by
      rw [bi_len_ref e, List.length_map]
    rw [zai]
    simp [bl _ e5p]
    refine zbg td.h5 td.h6 st5 (by omega) (by omega) (by omega) fun r1 h6 r10 r11 st6 fr6 l6 => ?_
    have e6p := fr6.some (n := p) (by simp [ps, pg]) e5p
    obtain ⟨x1, hx1⟩ : ∃ x1, ns[r1.toNat]? = some x1 := ⟨_, List.getElem?_eq_getElem (by omega)⟩
    rw [idx_ref e6p (at_pos r10 (by rw [List.getElem?_map, hx1]; rfl))]
    simp
    rw [zai]
    simp [bl _ e6p]
    refine zbg td.h5 td.h6 st6 (by omega) (by omega) (by omega) fun r2 h7 r20 r21 st7 fr7 l7 => ?_
    have e7p := fr7.some (n := p) (by simp [ps, pg]) e6p
    obtain ⟨x2, hx2⟩ : ∃ x1, ns[r2.toNat]? = some x1 := ⟨_, List.getElem?_eq_getElem (by omega)⟩
    rw [idx_ref e7p (at_pos r20 (by rw [List.getElem?_map, hx2]; rfl))]
    simp
    rw [zai]
    simp
    refine zbg td.h5 td.h6 st7 (by omega) (by omega) (by omega) fun way h8 w0 w1' st8 fr8 l8 => ?_
    try simp
    have f8 : Fr [s, g] h5 h8 := fr6.trans (fr7.trans fr8)
    have g8 : Fr [s, g, h3.length] h4 h8 := gr5.trans (f8.mono (by simp))
    have e8f := f8.some (n := h3.length) (by simp; omega) e5
    have e8w := g8.some (n := h2.length) (by simp; omega) e4w
    have e8w1 := g8.some (n := w1) (by simp; omega) e4w1
    have e8w2 := g8.some (n := w2) (by simp; omega) e4w2
    have F8 : Fr [s, g] h h8 := fr5.trans f8
    have m1 : x1 ∈ ns := List.mem_of_getElem? hx1
    have m2 : x2 ∈ ns := List.mem_of_getElem? hx2
    rw [zai]
    have bi1 : ∀ b h, biF .int1 [.bl b] h = .ok (.int (if b then 1 else 0)) h := fun b h => rfl
    simp [bi1]
    -- the world that is taken
    obtain ⟨wd, dd, iw, ed, dw⟩ : ∃ wd dd, zcc (.ref h2.length) (.int (if way = 5 then 1 else 0)) h8 = .ok (.ref wd) h8 ∧ h8[wd]? = some (.dct dd) ∧ ∀ x ∈ ns, InW dd x := by
      by_cases hw : way = 5
      · refine ⟨w2, d2, ?_, e8w2, dw2⟩
        rw [if_pos hw]
        exact idx_ref e8w rfl
      · refine ⟨w1, d1, ?_, e8w1, dw1⟩
        rw [if_neg hw]
        exact idx_ref e8w rfl
    rw [iw]
    simp
    rw [zai]
    obtain ⟨a1, b1, v1, n1, w1a, w1b⟩ := dw x1 m1
    obtain ⟨a2, b2, v2, n2, w2a, w2b⟩ := dw x2 m2
    have q1a := w1a.qs
    have q1b := w1b.qs
    have q2a := w2a.qs
    have q2b := w2b.qs
    have ba3 : Bd (999 * (1 * 99)) (99 * (1 * 999)) (a2 * (1 / a1)) := w2a.bd.mul (Bd.div (N := 1) (M := 1) ⟨by decide, by decide⟩ w1a.bd (num_ne n1))
    have bb3 : Bd (999 * ((0 * 99 + 999 * 1) * 99) * 99 + 999 * (99 * (1 * 99 * 999))) (99 * (1 * 99 * 999) * 99) (a2 * ((0 - b1) / a1) + b2) := (w2a.bd.mul ((Bd.sub (N := 0) (M := 1) ⟨by decide, by decide⟩ w1b.bd).div w1a.bd (num_ne n1))).add w2b.bd
    have bk := backL_eq tl (k := k + 1) (h := h8) q1a q1b n1 (by decide)
    have qa' : Qs 26 (1 / a1) := (Sb.q1.div q1a (num_ne n1)).mono (by decide)
    have qb' : Qs 26 ((0 - b1) / a1) := ((Sb.q0.sub q1b).div q1a (num_ne n1)).mono (by decide)
    have th := thenL_eq tl (k := k) (h := h8) qa' qb' q2a q2b (by decide)
    simp [idx_dct ed v1, idx_dct ed v2, bk, th]
    have qa3 : Qs 38 (a2 * (1 / a1)) := (q2a.mul qa').mono (by decide)
    have qb3 : Qs 51 (a2 * ((0 - b1) / a1) + b2) := ((q2a.mul qb').add q2b).mono (by decide)
    have na3 : a2 * (1 / a1) ≠ 0 := by
      intro z
      rcases Rat.mul_eq_zero.mp z with z | z
      · exact n2 z
      · have : a1 * (1 / a1) = 1 := by grind
        rw [z] at this
        grind
    generalize a2 * (1 / a1) = a3 at qa3 na3 ba3 ⊢
    generalize a2 * ((0 - b1) / a1) + b2 = b3 at qb3 bb3 ⊢
    simp [mq, zbx]
    -- the last: the telling is kept
    have last : ∀ (a b : Rat) (h9 : PH) (B2 : Nat), a ≠ 0 → Qs 38 a → Qs 60 b → NearQ a → NearQ b → St h9 s g c B2 → B2 + 8 ≤ B + 24 + 80 * ns.length + 120 * many + 40 * (i + 1) → Fr [s, g] h8 h9 →
        (exSs (call tbl (k + 4)) [.ex (.mth .append (.var 5) [(.tup [(.var 6), (.var 7), (.var 8), (.tup [(.var 11), (.var 12)]), (.call 6 [(.var 0), (.var 4)] [])])])] [some (.ref s), some (.ref p), some (.int mi), some (.ref h2.length), some (.int sz), some (.ref h3.length), some (.str y), some (.str x1), some (.str x2), some (.int way), some (.ref wd), some (fq a), some (fq b)] h9).Sat (I (i + 1)) Q := by
      intro a b h9 B2 na qa qb nra nrb st9 hb fr9
      have e9f := fr9.some (n := h3.length) (by simp; omega) e8f
      simp [ty_ref e9f, MT.ty]
      refine zbg td.h5 td.h6 st9 (by omega) (by omega) (by omega) fun tr h10 t0 t1 st10 fr10 l10 => ?_
      have e10f := fr10.some (n := h3.length) (by simp; omega) e9f
      have tsl : ts.length ≤ 600 := by
        have := congrArg List.length tn
        simp at this
        omega
      simp [mt_append e10f (by simp; omega)]
      rw [hI]
      refine ⟨_, _, _, _, _, _, _, ts ++ [⟨y, x1, x2, a, b, tr⟩], rfl, ?_, ?_, ?_, (st10.setNew (by omega) (by omega) (by omega)).up (by omega), (F8.trans (fr9.trans fr10)).setNew (by omega), (g8.trans ((fr9.trans fr10).mono (by simp))).trans (Fr.set (by simp))⟩
      · rw [set_at e10f]
        simp [Tel.pv, mq]
      · rw [List.map_append, tn, List.take_add_one, hy]
        rfl
      · intro t ht
        rcases List.mem_append.mp ht with z | z
        · exact tok t z
        · rw [List.mem_singleton.mp z]
          exact ⟨m1, m2, na, qa, qb, t0, by show tr ≤ 10 ^ 12; omega, nra, nrb⟩
    rw [zai]
    by_cases c6 : way = 6
    · have c7 : ¬ way = 7 := by omega
      subst c6
      simp
      refine zbg td.h5 td.h6 st8 (by omega) (by omega) (by omega) fun r9 h9 r90 r91 st9 fr9 l9 => ?_
      obtain ⟨n9, hn9⟩ : ∃ n9 : Int, n9 = 1 + r9 := ⟨_, rfl⟩
      have e1 : (PV.tup [.int n9, .int 1]) = fq (n9 : Rat) := by
        unfold fq
        rw [Rat.num_intCast, Rat.den_intCast]
        rfl
      have qn : Qs 8 (n9 : Rat) := ⟨by
        rw [Rat.num_intCast]
        omega, by rw [Rat.den_intCast]; decide⟩
      have pl := plusL_eq tl.h9 tl.h24 (k := k + 2) (h := h9) qb3 qn (by decide)
      simp [← hn9, e1, pl]
      rw [zai]
      simp
      have := last a3 (b3 + (n9 : Rat)) h9 _ na3 qa3 ((qb3.add qn).mono (by decide)) (ba3.near (by decide) (by decide)) ((bb3.add (N' := 9) (M' := 1) ⟨by rw [Rat.num_intCast]; omega, by rw [Rat.den_intCast]; exact Nat.le_refl _⟩).near (by decide) (by decide)) st9 (by omega) fr9
      simpa using this
    · simp [c6]
      rw [zai]
      by_cases c7 : way = 7
      · subst c7
        simp [fq0, fq1]
        have := last (-a3) b3 h8 _ (by grind) qa3.neg (qb3.mono (by decide)) (ba3.neg.near (by decide) (by decide)) (bb3.near (by decide) (by decide)) st8 (by omega) (Fr.refl _ _)
        have e : (PV.tup [.int (-a3.num), .int (a3.den : Nat)]) = fq (-a3) := rfl
        simpa [e] using this
      · simp [c7]
        have := last a3 b3 h8 _ na3 qa3 (qb3.mono (by decide)) (ba3.near (by decide) (by decide)) (bb3.near (by decide) (by decide)) st8 (by omega) (Fr.refl _ _)
        simpa using this
  · rw [hI]
    rintro ρ h5 ⟨o1, o2, o3, o4, o5, o6, o7, ts, rfl, e5, tn, tok, st5, fr5, gr5⟩
    rw [List.length_map] at tn st5
    rw [List.take_length] at tn
    refine ⟨zav (gr5.some (n := h3.length + 1) (by simp; omega) en), ?_⟩
    simp
    have tl' : ts.length = many := by
      have := congrArg List.length tn
      simpa [ln] using this
    exact q _ ts h5 e5 (by omega) tl' (by rw [tn]; exact nn) tok (st5.up (by omega)) fr5
end
end Sb
namespace Sb
open PySem
def Tel.key (t : Tel) : Int × Str := (t.tr, t.name)
def leT (a b : Tel) : Bool := leTel a.key b.key
def ltT (a b : Tel) : Bool := !leT b a
def zaj (ts : List Tel) : List Tel := ts.mergeSort leT
theorem zar (ts : List Tel) : (zaj ts).Perm ts := List.mergeSort_perm ..
theorem sort_pair (ts : List Tel) : (zaj ts).Pairwise fun a b => leT a b = true := List.pairwise_mergeSort (fun a b c => leTel_trans a.key b.key c.key) (fun a b => zcv a.key b.key) ts
/-- in a sorted list the things ahead of one are as many as its place tells -/
theorem pos_idx {S : List Tel} (o : S.Pairwise fun a b => leT a b = true) (nd : (S.map Tel.name).Nodup) {i : Nat} {t : Tel} (e : S[i]? = some t) : S.countP (fun u => ltT u t) = i := by
  obtain ⟨hi, ei⟩ := List.getElem?_eq_some_iff.mp e
  have es : S = S.take i ++ t :: S.drop (i + 1) := by
    conv => lhs; rw [← List.take_append_drop i S, List.drop_eq_getElem_cons hi, ei]
  generalize ha : S.take i = A at es
  generalize hb : S.drop (i + 1) = C at es
  have hl : A.length = i := by rw [← ha]; simp; omega
  subst es
  rw [List.pairwise_append] at o
  obtain ⟨_, o2, o3⟩ := o
  rw [List.pairwise_cons] at o2
  rw [List.map_append, List.nodup_append] at nd
  rw [List.countP_append, List.countP_eq_length.mpr, List.countP_eq_zero.mpr, hl]
  · rfl
  · intro u hu
    rcases List.mem_cons.mp hu with rfl | z
    · have := zcv u.key u.key
      simp at this
      simp [ltT, leT, this]
    · have := o2.1 u z
      simp [ltT, this]
  · intro u hu
    have h1 := o3 u hu t (List.mem_cons_self ..)
    unfold ltT
    cases h2 : leT t u with
    | false => rfl
    | true =>
      exfalso
      have ek := leTel_anti h1 h2
      have : u.name = t.name := congrArg Prod.snd ek
      exact nd.2.2 _ (List.mem_map.mpr ⟨u, hu, rfl⟩) _ (List.mem_map.mpr ⟨t, List.mem_cons_self .., rfl⟩) this
def posT (ts : List Tel) (t : Tel) : Nat := ts.countP fun u => ltT u t
theorem sort_nd {ts : List Tel} (nd : (ts.map Tel.name).Nodup) : ((zaj ts).map Tel.name).Nodup := ((zar ts).map Tel.name).nodup_iff.mpr nd
theorem pos_of {ts : List Tel} (nd : (ts.map Tel.name).Nodup) {i : Nat} {t : Tel} (e : (zaj ts)[i]? = some t) : posT ts t = i := by
  have := pos_idx (sort_pair ts) (sort_nd nd) e
  rw [(zar ts).countP_eq] at this
  exact this
theorem pos_get {ts : List Tel} (nd : (ts.map Tel.name).Nodup) {t : Tel} (m : t ∈ ts) : (zaj ts)[posT ts t]? = some t := by
  obtain ⟨i, e⟩ := mem_get ((zar ts).mem_iff.mpr m)
  rw [pos_of nd e]
  exact e
theorem sort_len (ts : List Tel) : (zaj ts).length = ts.length := (zar ts).length_eq
theorem sort_same {us ts : List Tel} (nd : (ts.map Tel.name).Nodup) (p : us.Perm ts) : zaj us = zaj ts := by
  have nu : (us.map Tel.name).Nodup := (p.map Tel.name).nodup_iff.mpr nd
  refine List.ext_getElem (by rw [sort_len, sort_len, p.length_eq]) fun i h1 h2 => ?_
  have e1 := List.getElem?_eq_getElem h1
  have m : (zaj us)[i] ∈ ts := p.mem_iff.mp ((zar us).mem_iff.mp (List.getElem_mem h1))
  have e2 := pos_get nd m
  have e3 := pos_of nu e1
  unfold posT at e2 e3
  rw [p.countP_eq] at e3
  rw [e3, List.getElem?_eq_getElem h2] at e2
  exact (Option.some.inj e2).symm
theorem sort_pv (ts : List Tel) : sortT (ts.map Tel.key) (ts.map Tel.pv) = (zaj ts).map Tel.pv := by
  unfold sortT zaj
  have e : (ts.map Tel.key).zip (ts.map Tel.pv) = ts.map fun t => (t.key, t.pv) := by
    induction ts with
    | nil => rfl
    | cons a r ih => simp [ih]
  rw [e, ← List.map_mergeSort (r := leT) (f := fun t : Tel => (t.key, t.pv)) (fun a _ b _ => rfl), List.map_map]
  rfl
theorem key_nd {ts : List Tel} (nd : (ts.map Tel.name).Nodup) : (ts.map Tel.key).Nodup := by
  have e : ts.map Tel.name = (ts.map Tel.key).map Prod.snd := by simp [Tel.key]
  rw [e] at nd
  exact List.Pairwise.of_map (S := fun a b => a ≠ b) Prod.snd (fun a b h z => h (congrArg Prod.snd z)) nd
theorem srt_pv {h : PH} {v : PV} {ts : List Tel} (e : zbw h v = some (ts.map Tel.pv)) (nd : (ts.map Tel.name).Nodup) (hl : ts.length ≤ 1000) : srtop v h = .ok (.ref h.length) (h ++ [.lst ((zaj ts).map Tel.pv)]) := by
  unfold srtop
  rw [e]
  have m : mapO zbk (ts.map Tel.pv) = some (ts.map Tel.key) := by
    have := mapO_some (f := zbk) (l := ts.map Tel.pv) (g := fun v => (zbk v).getD (0, "")) (fun v hv => by
      obtain ⟨t, _, rfl⟩ := List.mem_map.mp hv
      rfl)
    rw [this, List.map_map]
    rfl
  show (match mapO zbk (ts.map Tel.pv) with | some ks => if decide ks.Nodup && decide ((ts.map Tel.pv).length ≤ 1000) then R.ok (PV.ref h.length) (h ++ [PO.lst (sortT ks (ts.map Tel.pv))]) else .no | none => .no) = _
  rw [m]
  show (if _ then _ else _) = _
  rw [if_pos (by simp [key_nd nd, hl]), sort_pv]
theorem pv0 (t : Tel) (h : PH) : zcc t.pv (.int 0) h = .ok (.str t.name) h := idx_tup rfl
theorem pv1 (t : Tel) (h : PH) : zcc t.pv (.int 1) h = .ok (.str t.st) h := idx_tup rfl
theorem pv2 (t : Tel) (h : PH) : zcc t.pv (.int 2) h = .ok (.str t.en) h := idx_tup rfl
theorem pv3 (t : Tel) (h : PH) : zcc t.pv (.int 3) h = .ok (mq t.a t.b) h := idx_tup rfl
section
variable {tbl : Nat → Fn} {k : Nat} {h : PH}
theorem in_order_eq (h32 : tbl 32 = F_in_order) {v : PV} {ts : List Tel} (e : zbw h v = some (ts.map Tel.pv)) (nd : (ts.map Tel.name).Nodup) (hl : ts.length ≤ 1000) : call tbl (k + 1) 32 [v] h = .ok (.ref h.length) (h ++ [.lst ((zaj ts).map Tel.pv)]) := by
  refine R.Sat.eq ?_
  rw [zam, h32]
  refine zay rfl ?_
  simp only [F_in_order, zas, List.map, List.length, List.replicate, List.cons_append, List.nil_append]
  simp [srt_pv e nd hl]
theorem order_of_eq (h32 : tbl 32 = F_in_order) (h33 : tbl 33 = F_order_of) {v : PV} {ts : List Tel} (e : zbw h v = some (ts.map Tel.pv)) (nd : (ts.map Tel.name).Nodup) (hl : ts.length ≤ 1000) : call tbl (k + 2) 33 [v] h = .ok (.ref (h.length + 1)) (h ++ [.lst ((zaj ts).map Tel.pv), .lst ((zaj ts).map fun t => PV.str t.name)]) := by
  refine R.Sat.eq ?_
  rw [zam, h33]
  refine zay rfl ?_
  simp only [F_order_of, zas, List.map, List.length, List.replicate, List.cons_append, List.nil_append]
  rw [x_one, x_ret]
  have el : (h ++ [PO.lst ((zaj ts).map Tel.pv)])[h.length]? = some (.lst ((zaj ts).map Tel.pv)) := by simp
  refine v_mapE (l := [.ref h.length]) (h1 := h ++ [.lst ((zaj ts).map Tel.pv)]) (by simp [in_order_eq h32 e nd hl]) (zbf el) (fun v => match v with | .tup (x :: _) => x | _ => .non) (fun h' => h' = h ++ [.lst ((zaj ts).map Tel.pv)]) rfl (fun h' e => by subst e; exact zav el) (by rw [List.length_map, sort_len]; omega) (fun x hx h' e => ?_) fun h' e => ?_
  · subst e
    obtain ⟨t, _, rfl⟩ := List.mem_map.mp hx
    refine ⟨_, rfl, ?_⟩
    simp [zbi, pv0]
    rfl
  · subst e
    simp
    exact fun a _ => rfl
end
end Sb
namespace Sb
open PySem
def Tel.dat (t : Tel) : PyData := .tuple [.str t.name, .str t.st, .str t.en, .tuple [.tuple [.int t.a.num, .int (t.a.den : Nat)], .tuple [.int t.b.num, .int (t.b.den : Nat)]], .int t.tr]
theorem eqv_dat (t : Tel) : PyData.eqv t.dat t.dat = true := by simp [Tel.dat, PyData.eqv, PyData.eqvAll]
theorem pop_at {h : PH} {n : Nat} {l : List PV} {i : Int} {v : PV} (e : h[n]? = some (.lst l)) (h0 : 0 ≤ i) (hv : l[i.toNat]? = some v) : mtF .popAt (.ref n) [.int i] h = .ok v (h.set n (.lst (l.eraseIdx i.toNat))) := by
  simp only [mtF, mtPopAt, e, hv]
  rw [if_pos h0]
theorem perm_erase {α : Type} : ∀ {l : List α} {i : Nat} {x : α}, l[i]? = some x → (x :: l.eraseIdx i).Perm l
  | [], i, x, e => by simp at e
  | a :: r, 0, x, e => by
    simp at e
    subst e
    simp
  | a :: r, i + 1, x, e => by
    simp at e
    rw [List.eraseIdx_cons_succ]
    exact (List.Perm.swap a x _).trans ((perm_erase e).cons a)
/-- a list or a tuple -/
theorem seqR {h : PH} {n : Nat} {l : List PV} (e : h[n]? = some (.lst l)) : zbw h (.ref n) = some l := by simp only [zbw, e]
theorem Fr.seq {h h' : PH} {v : PV} {l : List PV} (f : Fr [] h h') (e : zbw h v = Option.some l) : zbw h' v = Option.some l := by
  cases v with
  | tup k => exact e
  | cl k => exact e
  | ref n =>
    simp only [zbw] at e ⊢
    cases hn : h[n]? with
    | none => rw [hn] at e; cases e
    | some o =>
      rw [hn] at e
      rw [f.some (by simp) hn]
      exact e
  | _ => cases e
theorem walk_seqV {h : PH} {v : PV} {l : List PV} (e : zbw h v = some l) : ∃ kp, zcm .seq [v] h = some (l, kp) ∧ ∀ h', zbw h' v = some l → zbn kp h' := by
  cases v with
  | tup k =>
    cases e
    exact ⟨[], rfl, fun _ _ => zbu _⟩
  | cl k =>
    cases e
    exact ⟨[], rfl, fun _ _ => zbu _⟩
  | ref n =>
    simp only [zbw] at e
    cases hn : h[n]? with
    | none => rw [hn] at e; cases e
    | some o =>
      rw [hn] at e
      cases o with
      | lst k =>
        cases e
        refine ⟨_, zbf hn, fun h' e' => ?_⟩
        simp only [zbw] at e'
        cases hn' : h'[n]? with
        | none => rw [hn'] at e'; cases e'
        | some o' =>
          rw [hn'] at e'
          cases o' with
          | lst k' =>
            cases e'
            exact zav hn'
          | dct _ => cases e'
          | obj _ _ => cases e'
      | dct _ => cases e
      | obj _ _ => cases e
  | _ => cases e
end Sb
namespace Sb
open PySem
abbrev Mv := Rat × Rat
def thn2 (p q : Mv) : Mv := (q.1 * p.1, q.1 * p.2 + q.2)
def bck (p : Mv) : Mv := (1 / p.1, (0 - p.2) / p.1)
def rel (P : Str → Mv) (x y : Str) : Mv := thn2 (bck (P x)) (P y)
def one2 : Mv := (1, 0)
theorem zcf (p q r : Mv) : thn2 (thn2 p q) r = thn2 p (thn2 q r) := by
  unfold thn2
  ext <;> simp <;> grind
theorem thn_one (p : Mv) : thn2 p one2 = p := by
  unfold thn2 one2
  ext <;> simp <;> grind
theorem one_thn (p : Mv) : thn2 one2 p = p := by
  unfold thn2 one2
  ext <;> simp <;> grind
theorem bck_thn {p : Mv} (h : p.1 ≠ 0) : thn2 (bck p) p = one2 := by
  unfold thn2 bck one2
  ext <;> simp <;> grind
theorem thn_bck {p : Mv} (h : p.1 ≠ 0) : thn2 p (bck p) = one2 := by
  unfold thn2 bck one2
  ext <;> simp <;> grind
theorem bck_ne {p : Mv} (h : p.1 ≠ 0) : (bck p).1 ≠ 0 := by
  unfold bck
  intro z
  have : p.1 * (1 / p.1) = 1 := by grind
  rw [show (1 : Rat) / p.1 = 0 from z] at this
  grind
theorem thn_ne {p q : Mv} (h : p.1 ≠ 0) (g : q.1 ≠ 0) : (thn2 p q).1 ≠ 0 := by
  unfold thn2
  intro z
  rcases Rat.mul_eq_zero.mp z with z | z
  · exact g z
  · exact h z
theorem bck_bck {p : Mv} (h : p.1 ≠ 0) : bck (bck p) = p := by
  have e : thn2 (bck (bck p)) (thn2 (bck p) p) = p := by rw [← zcf, bck_thn (bck_ne h), one_thn]
  rwa [bck_thn h, thn_one] at e
theorem bck_thn2 {p q : Mv} (h : p.1 ≠ 0) (g : q.1 ≠ 0) : bck (thn2 p q) = thn2 (bck q) (bck p) := by
  have e : thn2 (bck (thn2 p q)) (thn2 (thn2 p q) (thn2 (bck q) (bck p))) = thn2 (bck q) (bck p) := by rw [← zcf, bck_thn (thn_ne h g), one_thn]
  rw [zcf p q, ← zcf q, thn_bck g, one_thn, thn_bck h, thn_one] at e
  exact e
section
variable {P : Str → Mv}
theorem rel_self {x : Str} (h : (P x).1 ≠ 0) : rel P x x = one2 := bck_thn h
theorem rel_thn {x y z : Str} (h : (P y).1 ≠ 0) : thn2 (rel P x y) (rel P y z) = rel P x z := by
  unfold rel
  rw [zcf, ← zcf (P y), thn_bck h, one_thn]
theorem rel_bck {x y : Str} (hx : (P x).1 ≠ 0) (hy : (P y).1 ≠ 0) : bck (rel P x y) = rel P y x := by
  unfold rel
  rw [bck_thn2 (bck_ne hx) hy, bck_bck hx]
end
inductive Joined (ts : List Tel) : Str → Str → Prop
  | refl (x : Str) : Joined ts x x
  | step {x y : Str} {t : Tel} (m : t ∈ ts) (j : Joined ts x y) (e : y = t.st) : Joined ts x t.en
  | back {x y : Str} {t : Tel} (m : t ∈ ts) (j : Joined ts x y) (e : y = t.en) : Joined ts x t.st
theorem Joined.trans {ts : List Tel} {x y z : Str} (a : Joined ts x y) (b : Joined ts y z) : Joined ts x z := by
  induction b with
  | refl => exact a
  | step m _ e ih => exact .step m ih e
  | back m _ e ih => exact .back m ih e
theorem Joined.of {ts : List Tel} {t : Tel} (m : t ∈ ts) : Joined ts t.st t.en := .step m (.refl _) rfl
theorem Joined.of' {ts : List Tel} {t : Tel} (m : t ∈ ts) : Joined ts t.en t.st := .back m (.refl _) rfl
theorem Joined.symm {ts : List Tel} {x y : Str} (a : Joined ts x y) : Joined ts y x := by
  induction a with
  | refl => exact .refl _
  | step m _ e ih => subst e; exact (Joined.of' m).trans ih
  | back m _ e ih => subst e; exact (Joined.of m).trans ih
theorem Joined.mono {ts us : List Tel} (h : ∀ t ∈ ts, t ∈ us) {x y : Str} (a : Joined ts x y) : Joined us x y := by
  induction a with
  | refl => exact .refl _
  | step m _ e ih => exact .step (h _ m) ih e
  | back m _ e ih => exact .back (h _ m) ih e
/-- where every telling of ts has both ends joined in us -/
theorem Joined.into {ts us : List Tel} (h : ∀ t ∈ ts, Joined us t.st t.en) {x y : Str} (a : Joined ts x y) : Joined us x y := by
  induction a with
  | refl => exact .refl _
  | step m _ e ih => subst e; exact ih.trans (h _ m)
  | back m _ e ih => subst e; exact ih.trans (h _ m).symm
def reMark (mk : Str → Str) (near far : Str) : Str → Str := fun x => if mk x = far then near else mk x
def ties : (Str → Str) → List Tel → List Tel
  | _, [] => []
  | mk, t :: r => if mk t.st = mk t.en then ties mk r else t :: ties (reMark mk (mk t.st) (mk t.en)) r
def zad (ts : List Tel) : List Tel := ties id (zaj ts)
theorem ties_sub : ∀ (l : List Tel) (mk : Str → Str), (ties mk l).Sublist l
  | [], _ => List.Sublist.slnil
  | t :: r, mk => by
    unfold ties
    split
    · exact (ties_sub r _).cons _
    · exact (ties_sub r _).cons_cons _
/-- a telling that P agrees with -/
def Agrees (P : Str → Mv) (t : Tel) : Prop := (t.a, t.b) = rel P t.st t.en
/-- marks tell what is joined -/
theorem ties_spec : ∀ (l : List Tel) (mk : Str → Str) (F : List Tel) (P : Str → Mv), (∀ x, (P x).1 ≠ 0) → (∀ t ∈ l, t.a ≠ 0) → (∀ x y, mk x = mk y → Joined F x y) → (∀ t ∈ F, mk t.st = mk t.en) → (∀ t ∈ F, Agrees P t) →
    ∃ P' : Str → Mv, (∀ x, (P' x).1 ≠ 0) ∧ (∀ t ∈ F ++ ties mk l, Agrees P' t) ∧ ∀ t ∈ l, Joined (F ++ ties mk l) t.st t.en
  | [], mk, F, P, hP, ha, hj, hm, hg => ⟨P, hP, by simpa [ties] using hg, by simp⟩
  | t :: r, mk, F, P, hP, ha, hj, hm, hg => by
    unfold ties
    by_cases e : mk t.st = mk t.en
    · rw [if_pos e]
      obtain ⟨P', h1, h2, h3⟩ := ties_spec r mk F P hP (fun u hu => ha u (List.mem_cons_of_mem _ hu)) hj hm hg
      refine ⟨P', h1, h2, fun u hu => ?_⟩
      rcases List.mem_cons.mp hu with rfl | hu
      · exact (hj _ _ e).mono fun v hv => List.mem_append_left _ hv
      · exact h3 u hu
    · rw [if_neg e]
      let G : Mv := thn2 (thn2 (P t.st) (t.a, t.b)) (bck (P t.en))
      let P1 : Str → Mv := fun x => if mk x = mk t.en then thn2 G (P x) else P x
      have a0 : t.a ≠ 0 := ha t (List.mem_cons_self ..)
      have G0 : G.1 ≠ 0 := thn_ne (thn_ne (hP _) a0) (bck_ne (hP _))
      have hP1 : ∀ x, (P1 x).1 ≠ 0 := fun x => by
        show (if mk x = mk t.en then thn2 G (P x) else P x).1 ≠ 0
        split
        · exact thn_ne G0 (hP x)
        · exact hP x
      have same : ∀ x y, mk x = mk y → rel P1 x y = rel P x y := fun x y exy => by
        show thn2 (bck (if mk x = mk t.en then thn2 G (P x) else P x)) (if mk y = mk t.en then thn2 G (P y) else P y) = _
        rw [← exy]
        split
        · rw [bck_thn2 G0 (hP x), zcf, ← zcf (bck G), bck_thn G0, one_thn]
          rfl
        · rfl
      have new : Agrees P1 t := by
        show (t.a, t.b) = thn2 (bck (if mk t.st = mk t.en then thn2 G (P t.st) else P t.st)) (if mk t.en = mk t.en then thn2 G (P t.en) else P t.en)
        rw [if_neg e, if_pos rfl]
        show _ = thn2 (bck (P t.st)) (thn2 (thn2 (thn2 (P t.st) (t.a, t.b)) (bck (P t.en))) (P t.en))
        rw [zcf _ (bck (P t.en)), bck_thn (hP _), thn_one, ← zcf, bck_thn (hP _), one_thn]
      have c1 : ∀ x y, reMark mk (mk t.st) (mk t.en) x = reMark mk (mk t.st) (mk t.en) y → Joined (F ++ [t]) x y := by
        intro x y exy
        have up : ∀ {x y}, mk x = mk y → Joined (F ++ [t]) x y := fun z => (hj _ _ z).mono fun v hv => List.mem_append_left _ hv
        have jt : Joined (F ++ [t]) t.st t.en := Joined.of (by simp)
        unfold reMark at exy
        split at exy
        · rename_i zx
          split at exy
          · rename_i zy
            exact up (zx.trans zy.symm)
          · exact ((up zx).trans jt.symm).trans (up exy)
        · split at exy
          · rename_i zy
            exact ((up exy).trans jt).trans (up zy.symm)
          · exact up exy
      have c2 : ∀ u ∈ F ++ [t], reMark mk (mk t.st) (mk t.en) u.st = reMark mk (mk t.st) (mk t.en) u.en := by
        intro u hu
        rcases List.mem_append.mp hu with z | z
        · unfold reMark
          rw [hm u z]
        · rw [List.mem_singleton.mp z]
          unfold reMark
          rw [if_neg e, if_pos rfl]
      have c3 : ∀ u ∈ F ++ [t], Agrees P1 u := by
        intro u hu
        rcases List.mem_append.mp hu with z | z
        · unfold Agrees
          rw [same _ _ (hm u z)]
          exact hg u z
        · rw [List.mem_singleton.mp z]
          exact new
      obtain ⟨P', h1, h2, h3⟩ := ties_spec r (reMark mk (mk t.st) (mk t.en)) (F ++ [t]) P1 hP1 (fun u hu => ha u (List.mem_cons_of_mem _ hu)) c1 c2 c3
      have ea : F ++ [t] ++ ties (reMark mk (mk t.st) (mk t.en)) r = F ++ t :: ties (reMark mk (mk t.st) (mk t.en)) r := by simp
      rw [ea] at h2 h3
      refine ⟨P', h1, h2, fun u hu => ?_⟩
      rcases List.mem_cons.mp hu with rfl | hu
      · exact Joined.of (by simp)
      · exact h3 u hu
/-- readings that all ties tell; every telling's ends are joined by ties -/
theorem tieRows_spec {ts : List Tel} (ha : ∀ t ∈ ts, t.a ≠ 0) : ∃ P : Str → Mv, (∀ x, (P x).1 ≠ 0) ∧ (∀ t ∈ zad ts, Agrees P t) ∧ ∀ t ∈ ts, Joined (zad ts) t.st t.en := by
  obtain ⟨P, h1, h2, h3⟩ := ties_spec (zaj ts) id [] (fun _ => one2) (fun _ => by show (1 : Rat) ≠ 0; decide) (fun t ht => ha t ((zar ts).mem_iff.mp ht)) (fun x y e => by
    rw [show x = y from e]
    exact .refl _) (by simp) (by simp)
  rw [List.nil_append] at h2 h3
  exact ⟨P, h1, h2, fun t ht => h3 t ((zar ts).mem_iff.mpr ht)⟩
theorem zan {ts : List Tel} {t : Tel} (h : t ∈ zad ts) : t ∈ ts := (zar ts).mem_iff.mp ((ties_sub _ _).mem h)
end Sb
namespace Sb
open PySem
theorem valP_mem {l : List (L2.Key × PV)} {k : L2.Key} {v : PV} (e : valP l k = some v) : (k, v) ∈ l := by
  unfold valP at e
  obtain ⟨kv, h1, h2⟩ := Option.map_eq_some_iff.mp e
  have := List.find?_some h1
  have hk : kv.1 = k := of_decide_eq_true this
  have := List.mem_of_find?_eq_some h1
  rw [← hk, ← h2]
  exact this
theorem valP_none {l : List (L2.Key × PV)} {k : L2.Key} (e : valP l k = none) : k ∉ l.map (·.1) := by
  unfold valP at e
  rw [Option.map_eq_none_iff, List.find?_eq_none] at e
  intro h
  obtain ⟨kv, h1, h2⟩ := List.mem_map.mp h
  exact e kv h1 (decide_eq_true h2)
theorem any_none {l : List (L2.Key × PV)} {k : L2.Key} (e : k ∉ l.map (·.1)) : ¬ (l.any fun kv => decide (kv.1 = k)) = true := fun h => by
  obtain ⟨kv, h1, h2⟩ := List.any_eq_true.mp h
  exact e (List.mem_map.mpr ⟨kv, h1, of_decide_eq_true h2⟩)
theorem put_new {l : List (L2.Key × PV)} {k : L2.Key} {v : PV} (e : k ∉ l.map (·.1)) : putP l k v = l ++ [(k, v)] := by
  unfold putP
  rw [if_neg (any_none e)]
theorem merge_app : ∀ (m acc : List (L2.Key × PV)), ((acc ++ m).map (·.1)).Nodup → zbv acc m = acc ++ m
  | [], acc, _ => by simp [zbv]
  | (k, v) :: m, acc, nd => by
    show zbv (putP acc k v) m = _
    have h0 : k ∉ acc.map (·.1) := fun h => by
      rw [List.map_append, List.nodup_append] at nd
      exact nd.2.2 _ h _ (by simp) rfl
    rw [put_new h0, merge_app m (acc ++ [(k, v)]) (by simpa using nd)]
    simp
theorem keys_remark (a b : Str) (l : List (L2.Key × PV)) : (zbc a b l).map (·.1) = l.map (·.1) := by
  unfold zbc
  simp
def reV (a b : Str) : PV → PV
  | .str m => .str (if m = b then a else m)
  | v => v
theorem val_remark (a b : Str) (k : L2.Key) : ∀ l : List (L2.Key × PV), valP (zbc a b l) k = (valP l k).map (reV a b)
  | [] => rfl
  | (k', v) :: l => by
    have ih := val_remark a b k l
    have e : zbc a b ((k', v) :: l) = (k', reV a b v) :: zbc a b l := by
      unfold zbc
      rw [List.map_cons]
      cases v <;> rfl
    rw [e]
    unfold valP at ih ⊢
    by_cases z : k' = k
    · simp [z]
    · simp [z]
      simpa using ih
structure MkOk (l : List (L2.Key × PV)) (mk : Str → Str) : Prop where
  nd : (l.map (·.1)).Nodup
  st : ∀ kv ∈ l, ∃ y, kv.2 = .str y
  at_ : ∀ x, valP l (.inr x) = some (.str (mk x)) ∨ (valP l (.inr x) = none ∧ mk x = x)
  pr : ∀ x, valP l (.inr x) ≠ none → valP l (.inr (mk x)) ≠ none
theorem MkOk.setd {l : List (L2.Key × PV)} {mk : Str → Str} {x : Str} (m : MkOk l mk) (e : valP l (.inr x) = none) : MkOk (putP l (.inr x) (.str x)) mk := by
  have ex : mk x = x := by
    rcases m.at_ x with z | z
    · rw [e] at z
      cases z
    · exact z.2
  have np := valP_none e
  refine ⟨?_, fun kv h => ?_, fun y => ?_, fun y hy => ?_⟩
  · rw [put_new np, List.map_append, List.nodup_append]
    refine ⟨m.nd, by simp, fun a ha b hb z => np ?_⟩
    simp at hb
    rw [← hb, ← z]
    exact ha
  · rw [put_new np] at h
    rcases List.mem_append.mp h with z | z
    · exact m.st kv z
    · rw [List.mem_singleton.mp z]
      exact ⟨x, rfl⟩
  · rw [zbz]
    by_cases z : y = x
    · subst z
      rw [if_pos rfl, ex]
      exact .inl rfl
    · rw [if_neg (by simpa using z)]
      exact m.at_ y
  · rw [zbz] at hy ⊢
    by_cases z : y = x
    · subst z
      rw [ex, if_pos rfl]
      simp
    · rw [if_neg (by simpa using z)] at hy
      split
      · simp
      · exact m.pr y hy
theorem MkOk.re {l : List (L2.Key × PV)} {mk : Str → Str} {s e : Str} (m : MkOk l mk) (hs : valP l (.inr s) ≠ none) (he : valP l (.inr e) ≠ none) : MkOk (zbv [] (zbc (mk s) (mk e) l)) (reMark mk (mk s) (mk e)) := by
  have em : zbv [] (zbc (mk s) (mk e) l) = zbc (mk s) (mk e) l := by
    have := merge_app (zbc (mk s) (mk e) l) [] (by rw [List.nil_append, keys_remark]; exact m.nd)
    simpa using this
  rw [em]
  refine ⟨by rw [keys_remark]; exact m.nd, fun kv h => ?_, fun y => ?_, fun y hy => ?_⟩
  · unfold zbc at h
    obtain ⟨kv', h1, rfl⟩ := List.mem_map.mp h
    obtain ⟨z, ez⟩ := m.st kv' h1
    refine ⟨if z = mk e then mk s else z, ?_⟩
    show (match kv'.2 with | .str m => PV.str (if m = mk e then mk s else m) | v => v) = _
    rw [ez]
  · rw [val_remark]
    rcases m.at_ y with z | ⟨z1, z2⟩
    · rw [z]
      exact .inl rfl
    · rw [z1]
      refine .inr ⟨rfl, ?_⟩
      unfold reMark
      rw [z2, if_neg]
      intro ye
      have := m.pr e he
      rw [← ye] at this
      exact this z1
  · rw [val_remark] at hy ⊢
    have hy' : valP l (.inr y) ≠ none := fun z => hy (by rw [z]; rfl)
    have : valP l (.inr (reMark mk (mk s) (mk e) y)) ≠ none := by
      unfold reMark
      split
      · exact m.pr s hs
      · exact m.pr y hy'
    intro z
    exact this (Option.map_eq_none_iff.mp z)
theorem MkOk.strs {l : List (L2.Key × PV)} (h : ∀ kv ∈ l, ∃ y, kv.2 = PV.str y) : ∃ xs, zcy (l.map (·.2)) = some xs := by
  induction l with
  | nil => exact ⟨[], rfl⟩
  | cons kv r ih =>
    obtain ⟨xs, e⟩ := ih fun z hz => h z (List.mem_cons_of_mem _ hz)
    obtain ⟨y, ey⟩ := h kv (List.mem_cons_self ..)
    refine ⟨y :: xs, ?_⟩
    rw [List.map_cons, ey]
    show (zcy (r.map (·.2))).map (y :: ·) = _
    rw [e]
    rfl
theorem remark_len (a b : Str) (l : List (L2.Key × PV)) : (zbc a b l).length = l.length := by
  unfold zbc
  simp
theorem setd_eq {h : PH} {d : Nat} {l : List (L2.Key × PV)} {mk : Str → Str} (x : Str) (e : h[d]? = some (.dct l)) (m : MkOk l mk) (hl : l.length < 999999) : ∃ l' h', mtF .setd (.ref d) [.str x, .str x] h = .ok (.str (mk x)) h' ∧ h'[d]? = some (.dct l') ∧ MkOk l' mk ∧ valP l' (.inr x) ≠ none ∧ l'.length ≤ l.length + 1 ∧ (∀ n, n ≠ d → h'[n]? = h[n]?) ∧ h'.length = h.length ∧ ∀ y, valP l (.inr y) ≠ none → valP l' (.inr y) ≠ none := by
  have lo : za3 (l.length + 1) = true := zaq (by omega)
  rcases m.at_ x with z | ⟨z1, z2⟩
  · refine ⟨l, h, ?_, e, m, by rw [z]; simp, by omega, fun _ _ => rfl, rfl, fun _ z => z⟩
    simp only [mtF, mtSetd, e, zce, lo, if_true, z]
  · refine ⟨putP l (.inr x) (.str x), h.set d (.dct (putP l (.inr x) (.str x))), ?_, set_at e, m.setd z1, by rw [zbz, if_pos rfl]; simp, put_len .., fun n hn => za6 (Ne.symm hn), by simp, fun y hy => ?_⟩
    · simp only [mtF, mtSetd, e, zce, lo, if_true, z1, z2]
    · rw [zbz]
      split
      · simp
      · exact hy
section
variable {C : Calls} {t : Bool} {ρ : Env} {h : PH}
@[simp] theorem g_remark (d a b : Nat) : evG C (.remark d a b) t ρ h = fin t (remarkP (ρ.get d) (ρ.get a) (ρ.get b) h) := by rfl
@[simp] theorem g_firsts (j : Nat) : evG C (.firsts j) t ρ h = fin t (firstsP (ρ.get j) h) := by rfl
end
theorem remark_eq {h : PH} {d : Nat} {l : List (L2.Key × PV)} {a b : Str} (e : h[d]? = some (.dct l)) (st : ∀ kv ∈ l, ∃ y, kv.2 = PV.str y) (hl : l.length < 999999) : remarkP (some (.ref d)) (some (.str a)) (some (.str b)) h = .ok (.ref h.length) (h ++ [.dct (zbv [] (zbc a b l))]) := by
  obtain ⟨xs, ex⟩ := MkOk.strs st
  have lo : za3 (l.length + 1) = true := zaq (by omega)
  simp only [remarkP, e, ex, lo, if_true]
  rfl
theorem ty_dct {h : PH} {m : Nat} {l : List (L2.Key × PV)} (e : h[m]? = some (.dct l)) : tyOf h (.ref m) = some .dict := by simp only [tyOf, e]
section
variable {tbl : Nat → Fn} {k : Nat} {h : PH}
theorem zcx (h32 : tbl 32 = F_in_order) (h39 : tbl 39 = F_tie_rows) {v : PV} {ts : List Tel} (e : zbw h v = some (ts.map Tel.pv)) (nd : (ts.map Tel.name).Nodup) (hl : ts.length ≤ 1000) {Q : PV → PH → Prop}
    (q : ∀ n h', h'[n]? = some (.lst ((zad ts).map Tel.pv)) → h.length ≤ n → Fr [] h h' → Q (.ref n) h') : (call tbl (k + 2) 39 [v] h).Sat Q := by
  rw [zam, h39]
  refine zay rfl ?_
  simp only [F_tie_rows, zas, List.map, List.length, List.replicate, List.cons_append, List.nil_append]
  rw [zai]
  simp [pairUp, zbv, allocD]
  rw [zai]
  simp [zaw]
  rw [zai]
  have e2 : zbw (h ++ [PO.dct [], PO.lst []]) v = some (ts.map Tel.pv) := by
    cases v with
    | ref n =>
      cases hn : h[n]? with
      | none => simp [zbw, hn] at e
      | some o =>
        have : (h ++ [PO.dct [], PO.lst []])[n]? = some o := by
          rw [List.getElem?_append_left (List.getElem?_eq_some_iff.mp hn).1]
          exact hn
        simp only [zbw, this]
        simpa only [zbw, hn] using e
    | _ => exact e
  have io := in_order_eq (k := k) h32 e2 nd hl
  generalize hS : zaj ts = S at io
  have sl : S.length = ts.length := by rw [← hS, sort_len]
  have ll : (h ++ [PO.dct [], PO.lst []]).length = h.length + 2 := by simp
  rw [ll] at io
  generalize hh : h ++ [PO.dct [], PO.lst []] ++ [PO.lst (S.map Tel.pv)] = h1 at io
  have l1 : h1.length = h.length + 3 := by rw [← hh]; simp
  have a0 : h1[h.length]? = some (.dct []) := by rw [← hh]; simp
  have a1 : h1[h.length + 1]? = some (.lst []) := by rw [← hh]; simp
  have a2 : h1[h.length + 2]? = some (.lst (S.map Tel.pv)) := by rw [← hh]; simp
  have f1 : Fr [] h h1 := by rw [← hh, List.append_assoc]; exact Fr.app
  obtain ⟨I, hI⟩ : ∃ I : Nat → Env → PH → Prop, I = fun i ρ h' => ∃ (o3 o4 o5 : Option PV) (d : Nat) (l : List (L2.Key × PV)) (mk : Str → Str) (acc : List Tel), ρ = [some v, some (.ref d), some (.ref (h.length + 1)), o3, o4, o5, none, none] ∧ h'[d]? = some (.dct l) ∧ h.length ≤ d ∧ MkOk l mk ∧ l.length ≤ 2 * i ∧ h'[h.length + 1]? = some (.lst (acc.map Tel.pv)) ∧ acc.length ≤ i ∧ acc ++ ties mk (S.drop i) = ties id S ∧ h'[h.length + 2]? = some (.lst (S.map Tel.pv)) ∧ Fr [] h h' ∧ d ≠ h.length + 1 ∧ d ≠ h.length + 2 := ⟨_, rfl⟩
  refine x_forE (l := [.ref (h.length + 2)]) (h1 := h1) (by simp [io]) (zbf a2) I (by
    rw [hI]
    exact ⟨none, none, none, h.length, [], id, [], rfl, a0, Nat.le_refl _, ⟨by simp, by simp, fun x => .inr ⟨rfl, rfl⟩, fun x hx => absurd rfl hx⟩, by simp, a1, by simp, by simp, a2, f1, by omega, by omega⟩) ?_ ?_
  · intro i x ρ h2 hx hi
    rw [hI] at hi
    obtain ⟨o3, o4, o5, d, l, mk, acc, rfl, b1, b2, mo, b3, b4, b5, b6, b7, f2, d1, d2⟩ := hi
    rw [List.getElem?_map] at hx
    obtain ⟨t, ht, rfl⟩ := Option.map_eq_some_iff.mp hx
    have hi := (List.getElem?_eq_some_iff.mp ht).1
    refine ⟨zav b7, _, rfl, ?_⟩
    simp only [List.set]
    obtain ⟨l3, h3, c1, c2, c3, c4, c5, c6, c7, c8⟩ := setd_eq t.st b1 mo (by omega)
    obtain ⟨l4, h4, g1, g2, g3, g4, g5, g6, g7, g8⟩ := setd_eq t.en c2 c3 (by omega)
    rw [zai]
    simp [ty_dct b1, MT.ty, pv1, c1]
    rw [zai]
    simp [ty_dct c2, MT.ty, pv2, g1]
    have fr4 : Fr [] h h4 := ⟨by rw [g7, c7]; exact f2.len, fun n hn hl => by rw [g6 n (by omega), c6 n (by omega)]; exact f2.at_ n hn hl⟩
    have e4f : h4[h.length + 1]? = some (.lst (acc.map Tel.pv)) := by rw [g6 _ (Ne.symm d1), c6 _ (Ne.symm d1)]; exact b4
    have e4s : h4[h.length + 2]? = some (.lst (S.map Tel.pv)) := by rw [g6 _ (Ne.symm d2), c6 _ (Ne.symm d2)]; exact b7
    have ds : S.drop i = t :: S.drop (i + 1) := by
      rw [List.drop_eq_getElem_cons hi, (List.getElem?_eq_some_iff.mp ht).2]
    rw [ds, show ties mk (t :: S.drop (i + 1)) = if mk t.st = mk t.en then ties mk (S.drop (i + 1)) else t :: ties (reMark mk (mk t.st) (mk t.en)) (S.drop (i + 1)) from rfl] at b6
    have cn : ∀ x y : Str, zbd .NotEq (.str x) (.str y) h4 = .ok (.bl (!decide (x = y))) h4 := fun _ _ => rfl
    simp [cn]
    by_cases me : mk t.st = mk t.en
    · rw [if_pos me] at b6
      simp [me]
      rw [hI]
      exact ⟨_, _, _, d, l4, mk, acc, rfl, g2, b2, g3, by omega, e4f, by omega, b6, e4s, fr4, d1, d2⟩
    · rw [if_neg me] at b6
      simp [me]
      have re := remark_eq (a := mk t.st) (b := mk t.en) g2 g3.st (by omega)
      rw [zai]
      simp [re]
      have n4 : (h4 ++ [PO.dct (zbv [] (zbc (mk t.st) (mk t.en) l4))])[h.length + 1]? = some (.lst (acc.map Tel.pv)) := (Fr.app (S := [])).some (by simp) e4f
      have n4s : (h4 ++ [PO.dct (zbv [] (zbc (mk t.st) (mk t.en) l4))])[h.length + 2]? = some (.lst (S.map Tel.pv)) := (Fr.app (S := [])).some (by simp) e4s
      have lt4 := (List.getElem?_eq_some_iff.mp e4s).1
      simp [ty_ref n4, MT.ty, mt_append n4 (by simp; omega)]
      have mr := g3.re (g8 _ c4) g4
      rw [hI]
      refine ⟨_, _, _, h4.length, _, _, acc ++ [t], rfl, by rw [za6 (by omega)]; simp, by omega, mr, ?_, by rw [set_at n4]; simp, by simp; omega, by rw [← b6]; simp, by rw [za6 (by omega)]; exact n4s, fr4.appNew.setNew (by omega), by omega, by omega⟩
      rw [show zbv [] (zbc (mk t.st) (mk t.en) l4) = zbc (mk t.st) (mk t.en) l4 by
        have := merge_app (zbc (mk t.st) (mk t.en) l4) [] (by rw [List.nil_append, keys_remark]; exact g3.nd)
        simpa using this, remark_len]
      omega
  · intro ρ h2 hi
    rw [hI] at hi
    obtain ⟨o3, o4, o5, d, l, mk, acc, rfl, b1, b2, mo, b3, b4, b5, b6, b7, f2, d1, d2⟩ := hi
    refine ⟨zav b7, ?_⟩
    rw [List.length_map, List.drop_length] at b6
    have : acc = zad ts := by
      unfold zad
      rw [hS, ← b6]
      simp [ties]
    subst this
    simp
    exact q _ h2 b4 (by omega) f2
end
end Sb
namespace Sb
open PySem
abbrev Step := Str × Bool
def stPV (s : Step) : PV := .tup [.str s.1, .bl s.2]
def sgPV (p : Step × Str) : PV := .tup [stPV p.1, .str p.2]
def stepOf (x : Str) (t : Tel) : List (Step × Str) := (if t.st = x then [((t.name, true), t.en)] else []) ++ (if t.en = x then [((t.name, false), t.st)] else [])
def zax (rows : List Tel) (x : Str) : List (Step × Str) := rows.flatMap (stepOf x)
theorem steps_len (x : Str) : ∀ rows : List Tel, (zax rows x).length ≤ 2 * rows.length
  | [] => Nat.le_refl _
  | t :: r => by
    have ih := steps_len x r
    have : zax (t :: r) x = stepOf x t ++ zax r x := by simp [zax]
    rw [this, List.length_append, List.length_cons]
    have : (stepOf x t).length ≤ 2 := by
      unfold stepOf
      split <;> split <;> simp
    omega
theorem zb0 {rows : List Tel} {x : Str} {p : Step × Str} (h : p ∈ zax rows x) : ∃ t ∈ rows, (p = ((t.name, true), t.en) ∧ t.st = x) ∨ (p = ((t.name, false), t.st) ∧ t.en = x) := by
  obtain ⟨t, ht, hp⟩ := List.mem_flatMap.mp h
  refine ⟨t, ht, ?_⟩
  unfold stepOf at hp
  rcases List.mem_append.mp hp with z | z
  · split at z
    · rename_i e
      exact .inl ⟨by simpa using z, e⟩
    · simp at z
  · split at z
    · rename_i e
      exact .inr ⟨by simpa using z, e⟩
    · simp at z
theorem steps_forth {rows : List Tel} {t : Tel} (h : t ∈ rows) : ((t.name, true), t.en) ∈ zax rows t.st := List.mem_flatMap.mpr ⟨t, h, by simp [stepOf]⟩
theorem steps_back {rows : List Tel} {t : Tel} (h : t ∈ rows) : ((t.name, false), t.st) ∈ zax rows t.en := List.mem_flatMap.mpr ⟨t, h, by simp [stepOf]⟩
/-- a walk -/
inductive Walk (rows : List Tel) (s : Str) : List Step → Str → Prop
  | nil : Walk rows s [] s
  | snoc {c : List Step} {x : Str} {p : Step × Str} (w : Walk rows s c x) (m : p ∈ zax rows x) : Walk rows s (c ++ [p.1]) p.2
/-- a walk that comes to no scale twice: vs the scales that it comes to -/
inductive Path (rows : List Tel) (s : Str) : List Str → List Step → Str → Prop
  | nil : Path rows s [s] [] s
  | snoc {vs : List Str} {c : List Step} {x : Str} {p : Step × Str} (w : Path rows s vs c x) (m : p ∈ zax rows x) (n : p.2 ∉ vs) : Path rows s (vs ++ [p.2]) (c ++ [p.1]) p.2
theorem Path.walk {rows : List Tel} {s x : Str} {vs : List Str} {c : List Step} (w : Path rows s vs c x) : Walk rows s c x := by
  induction w with
  | nil => exact .nil
  | snoc w m n ih => exact ih.snoc m
def PathE (rows : List Tel) (s : Str) (c : List Step) (x : Str) : Prop := ∃ vs, Path rows s vs c x
theorem PathE.walk {rows : List Tel} {s x : Str} {c : List Step} (w : PathE rows s c x) : Walk rows s c x := w.elim fun _ w => w.walk
theorem Walk.joined {rows : List Tel} {s x : Str} {c : List Step} (w : Walk rows s c x) : Joined rows s x := by
  induction w with
  | nil => exact .refl _
  | snoc _ m ih =>
    obtain ⟨t, ht, ⟨rfl, e⟩ | ⟨rfl, e⟩⟩ := zb0 m
    · exact .step ht ih e.symm
    · exact .back ht ih e.symm
section
variable {tbl : Nat → Fn} {k : Nat} {h : PH}
theorem steps_from_eq (h40 : tbl 40 = F_steps_from) {r : Nat} {rows : List Tel} (e : h[r]? = some (.lst (rows.map Tel.pv))) (hl : rows.length ≤ 1000) (x : Str) : call tbl (k + 1) 40 [.ref r, .str x] h = .ok (.ref h.length) (h ++ [.lst ((zax rows x).map sgPV)]) := by
  refine R.Sat.eq ?_
  rw [zam, h40]
  refine zay rfl ?_
  simp only [F_steps_from, zas, List.map, List.length, List.replicate, List.cons_append, List.nil_append]
  rw [zai]
  simp [zaw]
  rw [zai]
  have e1 : ∀ l, (h ++ [PO.lst l])[r]? = some (.lst (rows.map Tel.pv)) := fun l => (Fr.app (S := [])).some (by simp) e
  obtain ⟨I, hI⟩ : ∃ I : Nat → Env → PH → Prop, I = fun i ρ h' => (∃ o3 o4 o5, ρ = [some (.ref r), some (.str x), some (.ref h.length), o3, o4, o5, none]) ∧ h' = h ++ [.lst ((zax (rows.take i) x).map sgPV)] := ⟨_, rfl⟩
  refine x_forE (l := [.ref r]) (h1 := h ++ [.lst []]) (by simp) (zbf (e1 _)) I (by rw [hI]; exact ⟨⟨_, _, _, rfl⟩, by simp [zax]⟩) ?_ ?_
  · intro i y ρ h' hy hi
    rw [hI] at hi
    obtain ⟨⟨o3, o4, o5, rfl⟩, rfl⟩ := hi
    rw [List.getElem?_map] at hy
    obtain ⟨t, ht, rfl⟩ := Option.map_eq_some_iff.mp hy
    refine ⟨zav (e1 _), [some (.ref r), some (.str x), some (.ref h.length), some (.str t.name), some (.str t.st), some (.str t.en), none], by simp [zbo, Tel.pv, zbx], ?_⟩
    have lt := steps_len x (rows.take i)
    have ltk : (rows.take i).length ≤ 1000 := by rw [List.length_take]; omega
    have es : zax (rows.take (i + 1)) x = zax (rows.take i) x ++ stepOf x t := by
      rw [List.take_add_one, ht]
      simp [zax]
    have at_ : ∀ l : List PV, (h ++ [PO.lst l])[h.length]? = some (.lst l) := fun l => by simp
    have up : ∀ (l : List PV) v, l.length < 999999 → mtF .append (.ref h.length) [v] (h ++ [.lst l]) = .ok .non (h ++ [.lst (l ++ [v])]) := fun l v hl => by
      rw [mt_append (at_ l) (by omega)]
      simp
    have ty : ∀ l : List PV, tyOf (h ++ [PO.lst l]) (.ref h.length) = some .list := fun l => ty_ref (at_ l)
    have e2 : stepOf x t = (if t.st = x then [((t.name, true), t.en)] else []) ++ (if t.en = x then [((t.name, false), t.st)] else []) := rfl
    generalize hl0 : (zax (rows.take i) x).map sgPV = L0
    have ll0 : L0.length ≤ 2000 := by rw [← hl0, List.length_map]; omega
    have last : ∀ L1 : List PV, L1.length ≤ 2001 → L1 = L0 ++ (if t.st = x then [sgPV ((t.name, true), t.en)] else []) →
        (exSs (call tbl k) [.ifs (.cmp .Eq (.var 5) (.var 1)) [.ex (.mth .append (.var 2) [(.tup [(.tup [(.var 3), (.lit (.bl false))]), (.var 4)])])] []] [some (.ref r), some (.str x), some (.ref h.length), some (.str t.name), some (.str t.st), some (.str t.en), none] (h ++ [.lst L1])).Sat (I (i + 1)) fun v h_1 => v = .ref h.length ∧ h_1 = h ++ [.lst ((zax rows x).map sgPV)] := by
      intro L1 l1 eL
      by_cases c2 : t.en = x
      · simp [c2, ty, MT.ty, up L1 _ (by omega)]
        rw [hI]
        refine ⟨⟨_, _, _, rfl⟩, ?_⟩
        rw [es, e2, if_pos c2, List.map_append, hl0, eL]
        split <;> simp [sgPV, stPV]
      · simp [c2]
        rw [hI]
        refine ⟨⟨_, _, _, rfl⟩, ?_⟩
        rw [es, e2, if_neg c2, List.map_append, hl0, eL]
        split <;> simp [sgPV, stPV]
    rw [zai]
    by_cases c1 : t.st = x
    · simp [c1, ty, MT.ty, up L0 _ (by omega)]
      have := last (L0 ++ [sgPV ((t.name, true), t.en)]) (by simp; omega) (by rw [if_pos c1])
      simpa [sgPV, stPV, c1, ty, MT.ty] using this
    · simp [c1]
      have := last L0 (by omega) (by rw [if_neg c1]; simp)
      simpa using this
  · intro ρ h' hi
    rw [hI] at hi
    obtain ⟨⟨o3, o4, o5, rfl⟩, rfl⟩ := hi
    refine ⟨zav (e1 _), ?_⟩
    simp
end
end Sb
namespace Sb
open PySem
theorem nodup_len {α : Type} [DecidableEq α] : ∀ {A B : List α}, A.Nodup → (∀ x ∈ A, x ∈ B) → A.length ≤ B.length
  | [], _, _, _ => Nat.zero_le _
  | a :: A, B, nd, h => by
    obtain ⟨n1, n2⟩ := List.nodup_cons.mp nd
    have ha := h a (List.mem_cons_self ..)
    have := nodup_len (A := A) (B := B.erase a) n2 fun x hx => (List.mem_erase_of_ne (fun z => n1 (by rw [← z]; exact hx))).mpr (h x (List.mem_cons_of_mem _ hx))
    rw [List.length_erase_of_mem ha] at this
    have : 0 < B.length := List.length_pos_of_mem ha
    rw [List.length_cons]
    omega
def ends (rows : List Tel) : List Str := rows.flatMap fun t => [t.st, t.en]
theorem ends_len : ∀ rows : List Tel, (ends rows).length = 2 * rows.length
  | [] => rfl
  | t :: r => by
    have : ends (t :: r) = t.st :: t.en :: ends r := by simp [ends]
    rw [this, List.length_cons, List.length_cons, ends_len r, List.length_cons]
    omega
theorem steps_ends {rows : List Tel} {x : Str} {p : Step × Str} (h : p ∈ zax rows x) : p.2 ∈ ends rows := by
  obtain ⟨t, ht, ⟨rfl, _⟩ | ⟨rfl, _⟩⟩ := zb0 h
  · exact List.mem_flatMap.mpr ⟨t, ht, by simp⟩
  · exact List.mem_flatMap.mpr ⟨t, ht, by simp⟩
/-- a path whose scales are among the keys -/
def Pth (rows : List Tel) (s : Str) (l : List (L2.Key × PV)) (ch : List Step) (x : Str) : Prop := ∃ vs, Path rows s vs ch x ∧ ∀ v ∈ vs, valP l (.inr v) ≠ none
theorem Pth.up {rows : List Tel} {s x y : Str} {l : List (L2.Key × PV)} {v : PV} {ch : List Step} (w : Pth rows s l ch x) : Pth rows s (putP l (.inr y) v) ch x := by
  obtain ⟨vs, w1, w2⟩ := w
  refine ⟨vs, w1, fun z hz => ?_⟩
  rw [zbz]
  split
  · simp
  · exact w2 z hz
theorem Pth.snoc {rows : List Tel} {s x : Str} {l : List (L2.Key × PV)} {v : PV} {ch : List Step} (w : Pth rows s l ch x) {p : Step × Str} (m : p ∈ zax rows x) (n : valP l (.inr p.2) = none) : Pth rows s (putP l (.inr p.2) v) (ch ++ [p.1]) p.2 := by
  obtain ⟨vs, w1, w2⟩ := w
  refine ⟨vs ++ [p.2], w1.snoc m fun hp => w2 _ hp n, fun z hz => ?_⟩
  rw [zbz]
  split
  · simp
  · rename_i hne
    rcases List.mem_append.mp hz with q | q
    · exact w2 z q
    · rw [List.mem_singleton.mp q] at hne
      exact absurd rfl hne
theorem Pth.pathE {rows : List Tel} {s x : Str} {l : List (L2.Key × PV)} {ch : List Step} (w : Pth rows s l ch x) : PathE rows s ch x := w.elim fun vs w => ⟨vs, w.1⟩
theorem Pth.walk {rows : List Tel} {s x : Str} {l : List (L2.Key × PV)} {ch : List Step} (w : Pth rows s l ch x) : Walk rows s ch x := w.pathE.walk
/-- the roads found so far -/
structure RdOk (rows : List Tel) (s : Str) (h : PH) (lo d w : Nat) (l : List (L2.Key × PV)) : Prop where
  nd : (l.map (·.1)).Nodup
  ky : ∀ kv ∈ l, ∃ x m ch, kv = (.inr x, .ref m) ∧ h[m]? = some (.lst (ch.map stPV)) ∧ Pth rows s l ch x ∧ ch.length < l.length ∧ lo ≤ m ∧ m ≠ d ∧ m ≠ w ∧ (x = s ∨ x ∈ ends rows)
theorem RdOk.len {rows : List Tel} {s : Str} {h : PH} {lo d w : Nat} {l : List (L2.Key × PV)} (r : RdOk rows s h lo d w l) : l.length ≤ 2 * rows.length + 1 := by
  have := nodup_len (A := l.map (·.1)) (B := (s :: ends rows).map Sum.inr) r.nd fun k hk => by
    obtain ⟨kv, h1, rfl⟩ := List.mem_map.mp hk
    obtain ⟨x, m, ch, rfl, _, _, _, _, _, _, hx⟩ := r.ky kv h1
    exact List.mem_map.mpr ⟨x, by simpa using hx, rfl⟩
  rw [List.length_map, List.length_map, List.length_cons, ends_len] at this
  exact this
theorem RdOk.frame {rows : List Tel} {s : Str} {h h' : PH} {lo d w : Nat} {l : List (L2.Key × PV)} (r : RdOk rows s h lo d w l) (f : ∀ m, m ≠ d → m ≠ w → ∀ o, h[m]? = some o → h'[m]? = some o) : RdOk rows s h' lo d w l := ⟨r.nd, fun kv hk => by
  obtain ⟨x, m, ch, e, h1, h2, h3, h4, h5, h6, h7⟩ := r.ky kv hk
  exact ⟨x, m, ch, e, f m h5 h6 _ h1, h2, h3, h4, h5, h6, h7⟩⟩
theorem RdOk.get {rows : List Tel} {s : Str} {h : PH} {lo d w : Nat} {l : List (L2.Key × PV)} (r : RdOk rows s h lo d w l) {x : Str} {v : PV} (e : valP l (.inr x) = some v) : ∃ m ch, v = .ref m ∧ h[m]? = some (.lst (ch.map stPV)) ∧ Pth rows s l ch x ∧ ch.length < l.length ∧ m ≠ d ∧ m ≠ w := by
  obtain ⟨y, m, ch, e1, h1, h2, h3, h4, h5, h6, _⟩ := r.ky _ (valP_mem e)
  cases e1
  exact ⟨m, ch, rfl, h1, h2, h3, h5, h6⟩
theorem RdOk.add {rows : List Tel} {s : Str} {h : PH} {lo d w m : Nat} {l : List (L2.Key × PV)} {y : Str} {ch : List Step} (r : RdOk rows s h lo d w l) (n : valP l (.inr y) = none) (e : h[m]? = some (.lst (ch.map stPV))) (wk : Pth rows s (putP l (.inr y) (.ref m)) ch y) (hc : ch.length ≤ l.length) (h1 : lo ≤ m) (h2 : m ≠ d) (h3 : m ≠ w) (hy : y ∈ ends rows) : RdOk rows s h lo d w (putP l (.inr y) (.ref m)) := by
  have np := valP_none n
  have pu : ∀ {x ch}, Pth rows s l ch x → Pth rows s (l ++ [(.inr y, .ref m)]) ch x := fun {x ch} w => by
    have := w.up (y := y) (v := .ref m)
    rwa [put_new np] at this
  rw [put_new np] at wk ⊢
  refine ⟨?_, fun kv hk => ?_⟩
  · rw [List.map_append, List.nodup_append]
    refine ⟨r.nd, by simp, fun a ha b hb z => np ?_⟩
    simp at hb
    rw [← hb, ← z]
    exact ha
  · rcases List.mem_append.mp hk with z | z
    · obtain ⟨x, m, ch, e, h1, h2, h3, h4⟩ := r.ky kv z
      exact ⟨x, m, ch, e, h1, pu h2, by simp; omega, h4⟩
    · rw [List.mem_singleton.mp z]
      exact ⟨y, m, ch, rfl, e, wk, by simp; omega, h1, h2, h3, .inr hy⟩
theorem in_dct {h : PH} {d : Nat} {l : List (L2.Key × PV)} (e : h[d]? = some (.dct l)) (x : Str) : zbd .NotIn (.str x) (.ref d) h = .ok (.bl (!(valP l (.inr x)).isSome)) h := by
  show ofO ((inP h (.str x) (.ref d)).map fun b => PV.bl (!b)) h = _
  simp only [inP, e, zce]
  rfl
theorem b_addL {h : PH} {m n : Nat} {l k : List PV} (e1 : h[m]? = some (.lst l)) (e2 : h[n]? = some (.lst k)) (hl : l.length + k.length ≤ 1000000) : binop .Add (.ref m) (.ref n) h = .ok (.ref h.length) (h ++ [.lst (l ++ k)]) := by
  simp only [binop, e1, e2]
  rw [if_pos (zaq hl), zaw _ (by rw [List.length_append]; exact hl)]
theorem set_dct {h : PH} {n : Nat} {l : List (L2.Key × PV)} {x : Str} {v : PV} (e : h[n]? = some (.dct l)) (hl : l.length < 999999) : setop (.ref n) (.str x) v h = some (h.set n (.dct (putP l (.inr x) v))) := by
  simp only [setop, e, zce]
  rw [if_pos (zaq (by omega))]
section
variable {tbl : Nat → Fn} {k : Nat} {h : PH}
/-- roads: d the dict; every scale that is joined to the start has a road, a walk -/
theorem roads_sat (h40 : tbl 40 = F_steps_from) (h41 : tbl 41 = F_roads_among) {r : Nat} {rows : List Tel} (e : h[r]? = some (.lst (rows.map Tel.pv))) (hl : rows.length ≤ 1000) (s : Str) {Q : PV → PH → Prop}
    (q : ∀ d l w h', h'[d]? = some (.dct l) → h.length ≤ d → RdOk rows s h' h.length d w l → (∀ x, valP l (.inr x) ≠ none ↔ Joined rows s x) → Fr [] h h' → Q (.ref d) h') : (call tbl (k + 2) 41 [.ref r, .str s] h).Sat Q := by
  rw [zam, h41]
  refine zay rfl ?_
  have rl := (List.getElem?_eq_some_iff.mp e).1
  simp only [F_roads_among, zas, List.map, List.length, List.replicate, List.cons_append, List.nil_append]
  rw [zai]
  simp [zaw, pairUp, zce, zbv, putP, allocD]
  rw [zai]
  simp [zaw]
  rw [zai]
  generalize hd : h.length + 1 = d
  generalize hw : h.length + 1 + 1 = w
  generalize hh1 : h ++ [PO.lst [], PO.dct [(Sum.inr s, .ref h.length)], PO.lst [.str s]] = h1
  have a0 : h1[h.length]? = some (.lst []) := by rw [← hh1]; simp
  have a1 : h1[d]? = some (.dct [(Sum.inr s, .ref h.length)]) := by rw [← hh1, ← hd]; simp
  have a2 : h1[w]? = some (.lst [.str s]) := by
    rw [← hh1, ← hw]
    show (h ++ [PO.lst [], PO.dct [(Sum.inr s, .ref h.length)], PO.lst [.str s]])[h.length + 2]? = _
    simp
  have f1 : Fr [] h h1 := by rw [← hh1]; exact Fr.app
  have dw : d ≠ w := by omega
  have dl : h.length ≤ d := by omega
  have wl : h.length ≤ w := by omega
  obtain ⟨I, hI⟩ : ∃ I : Nat → Env → PH → Prop, I = fun n ρ h' => ∃ (o4 o5 o6 : Option PV) (l : List (L2.Key × PV)) (ws : List Str), n = 2 * (2 * rows.length + 1 - l.length) + ws.length ∧ ρ = [some (.ref r), some (.str s), some (.ref d), some (.ref w), o4, o5, o6] ∧ h'[d]? = some (.dct l) ∧ h'[w]? = some (.lst (ws.map PV.str)) ∧ RdOk rows s h' h.length d w l ∧ Fr [] h h' ∧ (∀ y ∈ ws, valP l (.inr y) ≠ none) ∧ valP l (.inr s) ≠ none ∧ (∀ y, valP l (.inr y) ≠ none → y ∉ ws → ∀ p ∈ zax rows y, valP l (.inr p.2) ≠ none) ∧ ws.length ≤ l.length := ⟨_, rfl⟩
  refine x_whl I (2 * (2 * rows.length + 1 - 1) + 1) ?_ ?_
  · rw [hI]
    refine ⟨none, none, none, [(Sum.inr s, .ref h.length)], [s], rfl, rfl, a1, a2, ⟨by simp, fun kv hk => ?_⟩, f1, fun y hy => ?_, ?_, fun y hy hn => ?_, by simp⟩
    · rw [List.mem_singleton.mp hk]
      exact ⟨s, h.length, [], rfl, a0, ⟨[s], .nil, by simp [valP]⟩, by simp, Nat.le_refl _, by omega, by omega, .inl rfl⟩
    · rw [List.mem_singleton.mp hy]
      simp [valP]
    · simp [valP]
    · exfalso
      apply hy
      have : ¬ s = y := fun z => hn (by simp [z])
      simp [valP, this]
  · intro n ρ h2 hi
    rw [hI] at hi
    obtain ⟨o4, o5, o6, l, ws, rfl, rfl, b1, b2, rk, f2, c1, c2, c3, c4⟩ := hi
    have bl : biF .len [.ref w] h2 = .ok (.int (ws.length : Nat)) h2 := by rw [bi_len_ref b2, List.length_map]
    simp [bl]
    cases ws with
    | nil =>
      simp
      refine q d l w h2 b1 dl rk (fun x => ⟨fun hx => ?_, fun j => ?_⟩) f2
      · cases hv : valP l (.inr x) with
        | none => exact absurd hv hx
        | some v =>
          obtain ⟨m, ch, _, _, wk, _⟩ := rk.get hv
          exact wk.walk.joined
      · induction j with
        | refl => exact c2
        | @step y t m j ey ih =>
          have := c3 _ ih (by simp) ((t.name, true), t.en) (by rw [ey]; exact steps_forth m)
          exact this
        | @back y t m j ey ih =>
          have := c3 _ ih (by simp) ((t.name, false), t.st) (by rw [ey]; exact steps_back m)
          exact this
    | cons x ws =>
      simp
      have pp := pop_at (h := h2) (i := 0) (v := .str x) b2 (by decide) rfl
      rw [zai]
      simp [ty_ref b2, MT.ty, pp]
      -- the steps from x
      generalize hh3 : h2.set w (.lst (ws.map PV.str)) = h3
      have d3 : h3[d]? = some (.dct l) := by rw [← hh3, za6 (Ne.symm dw)]; exact b1
      have w3 : h3[w]? = some (.lst (ws.map PV.str)) := by rw [← hh3]; exact set_at b2
      have f3 : Fr [] h h3 := by rw [← hh3]; exact f2.setNew wl
      have rk3 : RdOk rows s h3 h.length d w l := rk.frame fun m _ hm o eo => by rw [← hh3, za6 (Ne.symm hm)]; exact eo
      have r3 := f3.some (n := r) (by simp) e
      have sf := steps_from_eq (k := k) h40 r3 hl x
      have x0 : valP l (.inr x) ≠ none := c1 x (List.mem_cons_self ..)
      have sl := steps_len x rows
      have lq : h3.length ≠ d ∧ h3.length ≠ w := by
        have z1 := (List.getElem?_eq_some_iff.mp d3).1
        have z2 := (List.getElem?_eq_some_iff.mp w3).1
        omega
      have hlen := f3.len
      generalize hqq : h3.length = qq at sf lq
      generalize hh4 : h3 ++ [PO.lst ((zax rows x).map sgPV)] = h4 at sf
      have q4 : h4[qq]? = some (.lst ((zax rows x).map sgPV)) := by rw [← hh4, ← hqq]; simp
      have up4 : ∀ m o, h3[m]? = some o → h4[m]? = some o := fun m o eo => by rw [← hh4]; exact (Fr.app (S := [])).some (by simp) eo
      generalize hL0 : l.length = L0
      obtain ⟨J, hJ⟩ : ∃ J : Nat → Env → PH → Prop, J = fun i ρ h' => ∃ (o5 o6 : Option PV) (l : List (L2.Key × PV)) (vs : List Str), ρ = [some (.ref r), some (.str s), some (.ref d), some (.ref w), some (.str x), o5, o6] ∧ h'[d]? = some (.dct l) ∧ h'[w]? = some (.lst (vs.map PV.str)) ∧ RdOk rows s h' h.length d w l ∧ Fr [] h h' ∧ h'[qq]? = some (.lst ((zax rows x).map sgPV)) ∧ (∀ y ∈ vs, valP l (.inr y) ≠ none) ∧ valP l (.inr x) ≠ none ∧ valP l (.inr s) ≠ none ∧ (∀ y, valP l (.inr y) ≠ none → y ∉ vs → y ≠ x → ∀ p ∈ zax rows y, valP l (.inr p.2) ≠ none) ∧ (∀ p ∈ (zax rows x).take i, valP l (.inr p.2) ≠ none) ∧ 2 * (2 * rows.length + 1 - l.length) + vs.length ≤ 2 * (2 * rows.length + 1 - L0) + ws.length ∧ vs.length ≤ l.length := ⟨_, rfl⟩
      refine x_forE (l := [.ref qq]) (h1 := h4) (by simp [sf]) (zbf q4) J ?_ ?_ ?_
      · rw [hJ]
        exact ⟨_, _, l, ws, rfl, up4 _ _ d3, up4 _ _ w3, rk3.frame fun m _ _ o eo => up4 m o eo, by rw [← hh4]; exact f3.appNew, q4, fun y hy => c1 y (List.mem_cons_of_mem _ hy), x0, c2, fun y hy hn hx p hp => c3 y hy (by simp [hn, hx]) p hp, by simp, by omega, by rw [List.length_cons] at c4; omega⟩
      · intro i y ρ h5 hy hi
        rw [hJ] at hi
        obtain ⟨o5, o6, l5, vs, rfl, d5, w5, rk5, f5, q5, k1, k2, k3, k4, k5, k6, k7⟩ := hi
        rw [List.getElem?_map] at hy
        obtain ⟨p, hp, rfl⟩ := Option.map_eq_some_iff.mp hy
        have pm := List.mem_of_getElem? hp
        have hip := (List.getElem?_eq_some_iff.mp hp).1
        have l5l := rk5.len
        refine ⟨zav q5, [some (.ref r), some (.str s), some (.ref d), some (.ref w), some (.str x), some (stPV p.1), some (.str p.2)], by simp [zbo, sgPV, zbx], ?_⟩
        have tk : ∀ l', (∀ y, valP l5 (.inr y) ≠ none → valP l' (.inr y) ≠ none) → valP l' (.inr p.2) ≠ none → ∀ p' ∈ (zax rows x).take (i + 1), valP l' (.inr p'.2) ≠ none := fun l' up hp2 p' hp' => by
          rw [List.take_add_one, hp] at hp'
          rcases List.mem_append.mp hp' with z | z
          · exact up _ (k5 p' z)
          · rw [show p' = p by simpa using z]
            exact hp2
        rw [x_one]
        simp only [x_if, x_nil]
        simp [in_dct d5]
        cases hv : valP l5 (.inr p.2) with
        | some v =>
          simp
          rw [hJ]
          exact ⟨_, _, l5, vs, rfl, d5, w5, rk5, f5, q5, k1, k2, k3, k4, tk l5 (fun _ z => z) (by rw [hv]; simp), k6, k7⟩
        | none =>
          simp
          cases hx5 : valP l5 (.inr x) with
          | none => exact absurd hx5 k2
          | some v =>
            obtain ⟨m, ch, rfl, m1, m2, m3, m4, m5⟩ := rk5.get hx5
            rw [zai]
            have ml := (List.getElem?_eq_some_iff.mp m1).1
            have m6 : (h5 ++ [PO.lst [stPV p.1]])[m]? = some (.lst (ch.map stPV)) := (Fr.app (S := [])).some (by simp) m1
            have ad := b_addL (h := h5 ++ [PO.lst [stPV p.1]]) (m := m) (n := h5.length) (l := ch.map stPV) (k := [stPV p.1]) m6 (by simp) (by simp; omega)
            have d6 : (h5 ++ [PO.lst [stPV p.1], PO.lst (ch.map stPV ++ [stPV p.1])])[d]? = some (.dct l5) := (Fr.app (S := [])).some (by simp) d5
            have w6 : (h5 ++ [PO.lst [stPV p.1], PO.lst (ch.map stPV ++ [stPV p.1])])[w]? = some (.lst (vs.map PV.str)) := (Fr.app (S := [])).some (by simp) w5
            have q6 : (h5 ++ [PO.lst [stPV p.1], PO.lst (ch.map stPV ++ [stPV p.1])])[qq]? = some (.lst ((zax rows x).map sgPV)) := (Fr.app (S := [])).some (by simp) q5
            simp [idx_dct d5 hx5, zaw, ad, set_dct d6 (show l5.length < 999999 by omega)]
            generalize hh7 : (h5 ++ [PO.lst [stPV p.1], PO.lst (ch.map stPV ++ [stPV p.1])]).set d (.dct (putP l5 (.inr p.2) (.ref (h5.length + 1)))) = h7
            have d7 : h7[d]? = some (.dct (putP l5 (.inr p.2) (.ref (h5.length + 1)))) := by rw [← hh7]; exact set_at d6
            have w7 : h7[w]? = some (.lst (vs.map PV.str)) := by rw [← hh7, za6 dw]; exact w6
            have q7 : h7[qq]? = some (.lst ((zax rows x).map sgPV)) := by rw [← hh7, za6 (Ne.symm lq.1)]; exact q6
            have dlt := (List.getElem?_eq_some_iff.mp d5).1
            have wlt := (List.getElem?_eq_some_iff.mp w5).1
            have n7 : h7[h5.length + 1]? = some (.lst ((ch ++ [p.1]).map stPV)) := by
              rw [← hh7, za6 (by omega)]
              simp
            have rk7 : RdOk rows s h7 h.length d w l5 := rk5.frame fun m' hm _ o eo => by
              rw [← hh7, za6 (Ne.symm hm)]
              exact (Fr.app (S := [])).some (by simp) eo
            have rk8 := rk7.add hv n7 (m2.snoc pm hv) (by simp; omega) (by have := f5.len; omega) (by omega) (by omega) (steps_ends pm)
            have l8 := rk8.len
            have np := valP_none hv
            have le : (putP l5 (.inr p.2) (.ref (h5.length + 1))).length = l5.length + 1 := by rw [put_new np]; simp
            simp [ty_ref w7, MT.ty, mt_append w7 (by simp; omega)]
            rw [hJ]
            have up : ∀ y, valP l5 (.inr y) ≠ none → valP (putP l5 (.inr p.2) (.ref (h5.length + 1))) (.inr y) ≠ none := fun y hy => by
              rw [zbz]
              split
              · simp
              · exact hy
            have pn : valP (putP l5 (.inr p.2) (.ref (h5.length + 1))) (.inr p.2) ≠ none := by rw [zbz, if_pos rfl]; simp
            refine ⟨_, _, _, vs ++ [p.2], rfl, by rw [za6 (Ne.symm dw)]; exact d7, by rw [set_at w7]; simp, rk8.frame fun m' _ hm o eo => by rw [za6 (Ne.symm hm)]; exact eo, ?_, by rw [za6 (Ne.symm lq.2)]; exact q7, fun y hy => ?_, up _ k2, up _ k3, fun y hy hn hx p' hp' => ?_, tk _ up pn, by rw [le] at l8 ⊢; simp; omega, by rw [le]; simp; omega⟩
            · have : Fr [] h h7 := by rw [← hh7]; exact f5.appNew.setNew dl
              exact this.setNew wl
            · rcases List.mem_append.mp hy with z | z
              · exact up _ (k1 y z)
              · rw [List.mem_singleton.mp z]
                exact pn
            · rw [zbz] at hy
              have ny : ¬ y = p.2 := fun z => hn (by simp [z])
              rw [if_neg (by simpa using ny)] at hy
              exact up _ (k4 y hy (fun z => hn (List.mem_append_left _ z)) hx p' hp')
      · intro ρ h5 hi
        rw [hJ] at hi
        obtain ⟨o5, o6, l5, vs, rfl, d5, w5, rk5, f5, q5, k1, k2, k3, k4, k5, k6, k7⟩ := hi
        refine ⟨zav q5, ?_⟩
        rw [List.length_map, List.take_length] at k5
        have := rk.len
        refine ⟨2 * (2 * rows.length + 1 - l5.length) + vs.length, by omega, ?_⟩
        rw [hI]
        refine ⟨_, _, _, l5, vs, rfl, rfl, d5, w5, rk5, f5, k1, k3, fun y hy hn p hp => ?_, k7⟩
        by_cases hx : y = x
        · subst hx
          exact k5 p hp
        · exact k4 y hy hn hx p hp
end
end Sb
namespace Sb
open PySem
theorem RdOk.len2 {rows : List Tel} {s : Str} {h : PH} {lo d w : Nat} {l : List (L2.Key × PV)} (r : RdOk rows s h lo d w l) {ns : List Str} (hs : s ∈ ns) (he : ∀ x ∈ ends rows, x ∈ ns) : l.length ≤ ns.length := by
  have := nodup_len (A := l.map (·.1)) (B := ns.map Sum.inr) r.nd fun k hk => by
    obtain ⟨kv, h1, rfl⟩ := List.mem_map.mp hk
    obtain ⟨x, m, ch, rfl, _, _, _, _, _, _, hx⟩ := r.ky kv h1
    exact List.mem_map.mpr ⟨x, hx.elim (fun z => by rw [z]; exact hs) (he x), rfl⟩
  rwa [List.length_map, List.length_map] at this
section
variable {C : Calls} {t : Bool} {ρ : Env} {h : PH} {a b : E}
theorem g_dcomp (tg : List Nat) (one : TgK) (k : ITK) (its : List E) (cond : Option E) (own : List Nat) : evG C (.dcomp a b tg one k its cond own) t ρ h = fin t ((evGs C its ρ h).bind fun l h1 =>
      match zcm k l h1 with
      | some (items, kp) => (za5 kp (fun x => zbo (zbi ρ own) tg one x) (fun ρ1 h2 => (evGc C cond ρ1 h2).calm) (fun ρ1 h2 => (evG C a false ρ1 h2).calm) (fun ρ1 h2 => (evG C b false ρ1 h2).calm) items [] h1).bind fun l h2 => allocD l h2
      | none => .no) := by rfl
end
theorem dcomp_sat {kp : Keep} {bind : PV → Option Env} {t : Env → PH → R Bool} {ek ev : Env → PH → R PV} {Q : List (L2.Key × PV) → PH → Prop} (I : Nat → List (L2.Key × PV) → PH → Prop) : ∀ (items : List PV) (j : Nat) (acc : List (L2.Key × PV)) (h : PH), I j acc h →
    (∀ (i : Nat) (x : PV) acc h, items[i]? = some x → I (j + i) acc h → zbn kp h ∧ ∃ ρ1, bind x = some ρ1 ∧ (t ρ1 h).Sat fun b h1 => if b = true then (ek ρ1 h1).Sat fun k h2 => (ev ρ1 h2).Sat fun v h3 => ∃ kk, zce k = some kk ∧ za3 (acc.length + 1) = true ∧ I (j + i + 1) (putP acc kk v) h3 else I (j + i + 1) acc h1) →
    (∀ acc h, I (j + items.length) acc h → zbn kp h ∧ Q acc h) → (za5 kp bind t ek ev items acc h).Sat Q
  | [], j, acc, h, hi, _, hd => by
    obtain ⟨h1, h2⟩ := hd acc h hi
    unfold za5
    rw [if_pos h1]
    exact h2
  | x :: xs, j, acc, h, hi, hs, hd => by
    obtain ⟨h1, ρ1, h2, h3⟩ := hs 0 x acc h rfl hi
    unfold za5
    rw [if_pos h1, h2]
    show ((t ρ1 h).bind _).Sat Q
    rw [sat_bind]
    have go : ∀ acc' h', I (j + 1) acc' h' → (za5 kp bind t ek ev xs acc' h').Sat Q := fun acc' h' hi' => dcomp_sat I xs (j + 1) acc' h' hi' (fun i y ρ h e q => by
      have := hs (i + 1) y ρ h (by simpa using e)
      rw [show j + (i + 1) = j + 1 + i by omega] at this
      exact this q) (fun ρ h q => hd ρ h (by rw [List.length_cons, show j + (xs.length + 1) = j + 1 + xs.length by omega]; exact q))
    refine h3.imp fun b h4 q => ?_
    cases b with
    | false => exact go acc h4 (by simpa using q)
    | true =>
      simp only [if_true] at q ⊢
      rw [sat_bind]
      refine q.imp fun kv h5 q1 => ?_
      rw [sat_bind]
      refine q1.imp fun v h6 ⟨kk, e1, e2, e3⟩ => ?_
      rw [e1]
      show (if za3 (acc.length + 1) = true then _ else _ : R _).Sat Q
      rw [if_pos e2]
      exact go _ h6 e3
theorem v_dcompE {C : Calls} {tg : List Nat} {one : TgK} {k : ITK} {its : List E} {cond : Option E} {own : List Nat} {a b : E} {ρ : Env} {h h1 : PH} {Q : PV → PH → Prop} {l items : List PV} {kp : Keep} (e1 : evGs C its ρ h = .ok l h1) (e2 : zcm k l h1 = some (items, kp)) (I : Nat → List (L2.Key × PV) → PH → Prop) (h0 : I 0 [] h1)
    (hs : ∀ (i : Nat) (x : PV) acc h, items[i]? = some x → I i acc h → zbn kp h ∧ ∃ ρ1, zbo (zbi ρ own) tg one x = some ρ1 ∧ (evGc C cond ρ1 h).Sat fun c h1 => if c = true then (evG C a false ρ1 h1).Sat fun k h2 => (evG C b false ρ1 h2).Sat fun v h3 => ∃ kk, zce k = some kk ∧ za3 (acc.length + 1) = true ∧ I (i + 1) (putP acc kk v) h3 else I (i + 1) acc h1)
    (hd : ∀ acc h, I items.length acc h → zbn kp h ∧ Q (.ref h.length) (h ++ [.dct acc])) : (evG C (.dcomp a b tg one k its cond own) false ρ h).Sat Q := by
  rw [g_dcomp, fin_f, e1, R.bind_ok, e2]
  show ((za5 kp _ _ _ _ items [] h1).bind _).Sat Q
  rw [sat_bind]
  refine dcomp_sat I items 0 [] h1 h0 (fun i x acc h e q => ?_) fun acc h q => hd acc h (by simpa using q)
  obtain ⟨q1, ρ1, q2, q3⟩ := hs i x acc h e (by simpa using q)
  refine ⟨q1, ρ1, q2, ?_⟩
  rw [sat_calm]
  refine q3.imp fun c h2 q4 => ?_
  cases c with
  | false => simpa using q4
  | true =>
    simp only [if_true] at q4 ⊢
    rw [sat_calm]
    refine q4.imp fun kv h3 q5 => ?_
    rw [sat_calm]
    simpa using q5
theorem get1_dct {h : PH} {d : Nat} {l : List (L2.Key × PV)} (e : h[d]? = some (.dct l)) (x : Str) : mtF .get1 (.ref d) [.str x] h = .ok ((valP l (.inr x)).getD .non) h := by
  simp only [mtF, mtGet1, e, zce]
section
variable {tbl : Nat → Fn} {k : Nat} {h : PH}
theorem road_sat (h40 : tbl 40 = F_steps_from) (h41 : tbl 41 = F_roads_among) (h42 : tbl 42 = F_road_among) {r : Nat} {rows : List Tel} (e : h[r]? = some (.lst (rows.map Tel.pv))) (hl : rows.length ≤ 1000) {s x : Str} {ns : List Str} (hs : s ∈ ns) (he : ∀ x ∈ ends rows, x ∈ ns) {Q : PV → PH → Prop}
    (q1 : Joined rows s x → ∀ m ch h', h'[m]? = some (.lst (ch.map stPV)) → h.length ≤ m → PathE rows s ch x → ch.length < ns.length → Fr [] h h' → Q (.ref m) h') (q2 : ¬ Joined rows s x → ∀ h', Fr [] h h' → Q .non h') : (call tbl (k + 3) 42 [.ref r, .str s, .str x] h).Sat Q := by
  rw [zam, h42]
  refine zay rfl ?_
  simp only [F_road_among, zas, List.map, List.length, List.replicate, List.cons_append, List.nil_append]
  simp
  refine roads_sat h40 h41 (k := k) e hl s fun d l w h' e1 dl rk jn fr => ?_
  refine ⟨by rw [ty_dct e1]; rfl, ?_⟩
  simp [get1_dct e1]
  cases hv : valP l (.inr x) with
  | none =>
    refine q2 (fun j => ?_) h' fr
    exact (jn x).mpr j hv
  | some v =>
    obtain ⟨y, m, ch, e2, h1, h2, h3, h4, h5, h6, h7⟩ := rk.ky _ (valP_mem hv)
    cases e2
    have := rk.len2 hs he
    exact q1 ((jn x).mp (by rw [hv]; simp)) m ch h' h1 h4 h2.pathE (by omega) fr
end
end Sb
namespace Sb
open PySem
theorem Walk.pre {rows : List Tel} {s x : Str} {c : List Step} (w : Walk rows s c x) : ∀ i, i ≤ c.length → ∃ y, Walk rows s (c.take i) y := by
  induction w with
  | nil => exact fun i _ => ⟨s, by simpa using Walk.nil⟩
  | @snoc c x p w m ih =>
    intro i hi
    rw [List.length_append] at hi
    simp at hi
    by_cases h : i ≤ c.length
    · obtain ⟨y, hy⟩ := ih i h
      refine ⟨y, ?_⟩
      rw [List.take_append_of_le_length h]
      exact hy
    · have : i = (c ++ [p.1]).length := by simp; omega
      rw [this, List.take_length]
      exact ⟨p.2, w.snoc m⟩
theorem Walk.last {rows : List Tel} {s y : Str} {c : List Step} {a : Step} (w : Walk rows s (c ++ [a]) y) : ∃ x p, Walk rows s c x ∧ p ∈ zax rows x ∧ p.1 = a ∧ p.2 = y := by
  generalize e : c ++ [a] = d at w
  cases w with
  | nil => simp at e
  | @snoc c' x p w m =>
    obtain ⟨h1, h2⟩ := List.append_inj' e (by simp)
    subst h1
    exact ⟨x, p, w, m, by simpa using h2.symm, rfl⟩
theorem Walk.end_nil {rows : List Tel} {s y : Str} (w : Walk rows s [] y) : y = s := by
  generalize e : ([] : List Step) = d at w
  cases w with
  | nil => rfl
  | snoc w m => simp at e
/-- the moves by names -/
theorem name_take {ts : List Tel} (nd : (ts.map Tel.name).Nodup) {i : Nat} {t u : Tel} (ht : ts[i]? = some t) (hu : u ∈ ts.take i) : u.name ≠ t.name := by
  obtain ⟨j, hj⟩ := mem_get hu
  have hlt : j < i := by
    have := (List.getElem?_eq_some_iff.mp hj).1
    rw [List.length_take] at this
    omega
  rw [List.getElem?_take, if_pos hlt] at hj
  intro z
  have e1 : (ts.map Tel.name)[j]? = some u.name := by rw [List.getElem?_map, hj]; rfl
  have e2 : (ts.map Tel.name)[i]? = some t.name := by rw [List.getElem?_map, ht]; rfl
  have := (List.getElem?_inj (j := i) (List.getElem?_eq_some_iff.mp e1).1 nd).mp (by rw [e1, e2, z])
  omega
/-- what is asked of rows and readings -/
structure Rows (ts rows : List Tel) (P : Str → Mv) : Prop where
  nd : (ts.map Tel.name).Nodup
  sub : ∀ t ∈ rows, t ∈ ts
  p0 : ∀ x, (P x).1 ≠ 0
  ag : ∀ t ∈ rows, Agrees P t
  qa : ∀ t ∈ ts, t.a ≠ 0 ∧ Qs 40 t.a ∧ Qs 100 t.b
section
variable {tbl : Nat → Fn} {k : Nat} {h : PH}
theorem chain_move_sat (t : TM tbl) (h44 : tbl 44 = F_chain_move) {v : PV} {c : Nat} {ts rows : List Tel} {P : Str → Mv} (R : Rows ts rows P) (e : zbw h v = some (ts.map Tel.pv)) (hl : ts.length ≤ 1000) {ch : List Step} (ec : h[c]? = some (.lst (ch.map stPV))) (hc : ch.length ≤ 26) {s x : Str} (wk : Walk rows s ch x) {Q : PV → PH → Prop}
    (q : ∀ h', Fr [] h h' → Q (mq (rel P s x).1 (rel P s x).2) h') : (call tbl (k + 7) 44 [v, .ref c] h).Sat Q := by
  rw [zam, h44]
  refine zay rfl ?_
  simp only [F_chain_move, zas, List.map, List.length, List.replicate, List.cons_append, List.nil_append]
  rw [zai, x_set]
  obtain ⟨kp, wkp, skp⟩ := walk_seqV e
  refine v_dcompE (l := [v]) (h1 := h) (by simp) wkp (fun i acc h' => h' = h ∧ acc.length ≤ i ∧ ∀ t ∈ ts.take i, valP acc (.inr t.name) = some (mq t.a t.b)) ⟨rfl, by simp, by simp⟩ ?_ ?_
  · rintro i y acc h1 hy ⟨rfl, al, av⟩
    rw [List.getElem?_map] at hy
    obtain ⟨u, hu, rfl⟩ := Option.map_eq_some_iff.mp hy
    have hi := (List.getElem?_eq_some_iff.mp hu).1
    refine ⟨skp _ e, _, rfl, ?_⟩
    simp [zbi, pv0, pv3]
    refine ⟨.inr u.name, rfl, zaq (by omega), Nat.le_trans (put_len ..) (by omega), fun v hv => ?_⟩
    rw [List.take_add_one, hu] at hv
    rw [zbz]
    rcases List.mem_append.mp hv with z | z
    · rw [if_neg (by simpa using name_take R.nd hu z)]
      exact av v z
    · rw [show v = u by simpa using z, if_pos rfl]
  · rintro acc h1 ⟨rfl, al, av⟩
    refine ⟨skp _ e, ?_⟩
    rw [List.length_map, List.take_length] at av
    simp only [List.set]
    rw [zai]
    simp
    rw [zai]
    generalize hh2 : h1 ++ [PO.dct acc] = h2
    have d2 : h2[h1.length]? = some (.dct acc) := by rw [← hh2]; simp
    have c2 : h2[c]? = some (.lst (ch.map stPV)) := by rw [← hh2]; exact (Fr.app (S := [])).some (by simp) ec
    have f2 : Fr [] h1 h2 := by rw [← hh2]; exact Fr.app
    obtain ⟨I, hI⟩ : ∃ I : Nat → Env → PH → Prop, I = fun i ρ h' => h' = h2 ∧ ∃ (o4 o5 : Option PV) (m : Mv), ρ = [some v, some (.ref c), some (.ref h1.length), some (mq m.1 m.2), o4, o5, none] ∧ Qs (1 + 285 * i) m.1 ∧ Qs (1 + 285 * i) m.2 ∧ ∀ y, Walk rows s (ch.take i) y → m = rel P s y := ⟨_, rfl⟩
    refine x_forE (l := [.ref c]) (h1 := h2) (by simp) (zbf c2) I ?_ ?_ ?_
    · rw [hI]
      refine ⟨rfl, none, none, one2, rfl, q1, q0, fun y w => ?_⟩
      have ey : y = s := Walk.end_nil (rows := rows) (by simpa using w)
      rw [ey, rel_self (R.p0 s)]
    · intro i y ρ h3 hy hi
      rw [hI] at hi
      obtain ⟨rfl, o4, o5, m, rfl, qm1, qm2, hm⟩ := hi
      rw [List.getElem?_map] at hy
      obtain ⟨st, hst, rfl⟩ := Option.map_eq_some_iff.mp hy
      have hi := (List.getElem?_eq_some_iff.mp hst).1
      have tk : ch.take (i + 1) = ch.take i ++ [st] := by rw [List.take_add_one, hst]; rfl
      obtain ⟨y, hy⟩ := wk.pre (i + 1) (by omega)
      rw [tk] at hy
      obtain ⟨x', p, w', pm, ep, _⟩ := hy.last
      obtain ⟨u, hu, hcase⟩ := zb0 pm
      have ua := R.qa u (R.sub u hu)
      have uv := av u (R.sub u hu)
      have ag := R.ag u hu
      refine ⟨zav c2, [some v, some (.ref c), some (.ref h1.length), some (mq m.1 m.2), some (.str st.1), some (.bl st.2), none], by simp [zbo, stPV, zbx], ?_⟩
      -- the end of the step, whatever the walk
      have fin_ : ∀ cd : Mv, Qs 142 cd.1 → Qs 142 cd.2 → (∀ y', Walk rows s (ch.take i ++ [st]) y' → thn2 m cd = rel P s y') → I (i + 1) [some v, some (.ref c), some (.ref h1.length), some (mq (cd.1 * m.1) (cd.1 * m.2 + cd.2)), some (.str st.1), some (.bl st.2), none] h3 := by
        intro cd qc qd hw
        rw [hI]
        refine ⟨rfl, _, _, thn2 m cd, rfl, (qc.mul qm1).mono (by omega), ((qc.mul qm2).add qd).mono (by omega), fun y' w => ?_⟩
        rw [tk] at w
        exact hw y' w
      have uniq : ∀ {v : Tel}, v ∈ rows → v.name = u.name → v = u := fun {v} hv en => by
        obtain ⟨a1, b1⟩ := mem_get (R.sub v hv)
        obtain ⟨a2, b2⟩ := mem_get (R.sub u hu)
        have e1 : (ts.map Tel.name)[a1]? = some v.name := by rw [List.getElem?_map, b1]; rfl
        have e2 : (ts.map Tel.name)[a2]? = some u.name := by rw [List.getElem?_map, b2]; rfl
        have := (List.getElem?_inj (j := a2) (List.getElem?_eq_some_iff.mp e1).1 R.nd).mp (by rw [e1, e2, en])
        subst this
        rw [b1] at b2
        exact Option.some.inj b2
      rcases hcase with ⟨pe, hx⟩ | ⟨pe, hx⟩
      · have est : st = (u.name, true) := by rw [← ep, pe]
        subst est
        have th := then_eq t (k := k) (h := h3) qm1 qm2 (ua.2.1.mono (show 40 ≤ 142 by decide)) (ua.2.2.mono (show 100 ≤ 142 by decide)) (by omega)
        simp [idx_dct d2 uv, th]
        refine fin_ (u.a, u.b) (ua.2.1.mono (by decide)) (ua.2.2.mono (by decide)) fun y' w2 => ?_
        obtain ⟨x2, p2, w3, pm2, ep2, ey2⟩ := w2.last
        obtain ⟨v, hv, ⟨pv, hx2⟩ | ⟨pv, hx2⟩⟩ := zb0 pm2
        · rw [pv] at ep2 ey2
          have ev := uniq hv (congrArg Prod.fst ep2)
          subst ev
          rw [hm x2 w3, ag, ← ey2, ← hx2]
          exact rel_thn (R.p0 _)
        · rw [pv] at ep2
          cases congrArg Prod.snd ep2
      · have est : st = (u.name, false) := by rw [← ep, pe]
        subst est
        have bk := back_eq t (k := k + 2) (h := h3) ua.2.1 ua.2.2 ua.1 (by decide)
        have qa1 : Qs 142 (1 / u.a) := (q1.div ua.2.1 (num_ne ua.1)).mono (by decide)
        have qb1 : Qs 142 ((0 - u.b) / u.a) := ((q0.sub ua.2.2).div ua.2.1 (num_ne ua.1)).mono (by decide)
        have th := then_eq t (k := k) (h := h3) qm1 qm2 qa1 qb1 (by omega)
        simp [idx_dct d2 uv, bk, th]
        refine fin_ (bck (u.a, u.b)) qa1 qb1 fun y' w2 => ?_
        obtain ⟨x2, p2, w3, pm2, ep2, ey2⟩ := w2.last
        obtain ⟨v, hv, ⟨pv, hx2⟩ | ⟨pv, hx2⟩⟩ := zb0 pm2
        · rw [pv] at ep2
          cases congrArg Prod.snd ep2
        · rw [pv] at ep2 ey2
          have ev := uniq hv (congrArg Prod.fst ep2)
          subst ev
          rw [hm x2 w3, ag, rel_bck (R.p0 _) (R.p0 _), ← ey2, ← hx2]
          exact rel_thn (R.p0 _)
    · intro ρ h3 hi
      rw [hI] at hi
      obtain ⟨rfl, o4, o5, m, rfl, qm1, qm2, hm⟩ := hi
      refine ⟨zav c2, ?_⟩
      rw [List.length_map, List.take_length] at hm
      simp
      rw [hm x wk]
      exact q _ f2
end
end Sb
namespace Sb
open PySem
/-- tellings over scales -/
structure Bk (ns : List Str) (ts : List Tel) : Prop where
  nd : (ts.map Tel.name).Nodup
  ok : ∀ t ∈ ts, TelW ns t
  len : ts.length ≤ 1000
  nl : ns.length ≤ 26
/-- the defs of the forest -/
structure TF (tbl : Nat → Fn) : Prop where
  h32 : tbl 32 = F_in_order
  h39 : tbl 39 = F_tie_rows
  h40 : tbl 40 = F_steps_from
  h41 : tbl 41 = F_roads_among
  h42 : tbl 42 = F_road_among
  h43 : tbl 43 = F_road_of
  h44 : tbl 44 = F_chain_move
  h45 : tbl 45 = F_move_of
/-- .. those of roads alone -/
structure TR (tbl : Nat → Fn) : Prop where
  h32 : tbl 32 = F_in_order
  h39 : tbl 39 = F_tie_rows
  h40 : tbl 40 = F_steps_from
  h41 : tbl 41 = F_roads_among
  h42 : tbl 42 = F_road_among
  h43 : tbl 43 = F_road_of
theorem TF.tr {tbl : Nat → Fn} (f : TF tbl) : TR tbl := ⟨f.h32, f.h39, f.h40, f.h41, f.h42, f.h43⟩
/-- .. those of words alone -/
structure TW (tbl : Nat → Fn) : Prop where
  h32 : tbl 32 = F_in_order
  h39 : tbl 39 = F_tie_rows
  h40 : tbl 40 = F_steps_from
  h41 : tbl 41 = F_roads_among
  h42 : tbl 42 = F_road_among
  h44 : tbl 44 = F_chain_move
theorem Bk.ends {ns : List Str} {ts rows : List Tel} (b : Bk ns ts) (sub : ∀ t ∈ rows, t ∈ ts) : ∀ x ∈ ends rows, x ∈ ns := fun x hx => by
  obtain ⟨t, ht, hm⟩ := List.mem_flatMap.mp hx
  simp at hm
  rcases hm with rfl | rfl
  · exact (b.ok t (sub t ht)).st
  · exact (b.ok t (sub t ht)).en
theorem Bk.rows {ns : List Str} {ts : List Tel} (b : Bk ns ts) : ∃ P, Rows ts (zad ts) P ∧ ∀ t ∈ ts, Joined (zad ts) t.st t.en := by
  obtain ⟨P, h1, h2, h3⟩ := tieRows_spec fun t ht => (b.ok t ht).a0
  exact ⟨P, ⟨b.nd, fun t => zan, h1, h2, fun t ht => ⟨(b.ok t ht).a0, (b.ok t ht).qa, (b.ok t ht).qb⟩⟩, h3⟩
theorem zcn (ts : List Tel) : (zad ts).length ≤ ts.length := by
  have := (ties_sub (zaj ts) id).length_le
  rwa [sort_len] at this
section
variable {tbl : Nat → Fn} {k : Nat} {h : PH}
theorem road_of_satR (f : TR tbl) {v : PV} {ts : List Tel} {ns : List Str} (b : Bk ns ts) (e : zbw h v = some (ts.map Tel.pv)) {s x : Str} (hs : s ∈ ns) (j : Joined (zad ts) s x) {Q : PV → PH → Prop}
    (q : ∀ m ch h', h'[m]? = some (.lst (ch.map stPV)) → PathE (zad ts) s ch x → ch.length < ns.length → Fr [] h h' → Q (.ref m) h') : (call tbl (k + 4) 43 [v, .str s, .str x] h).Sat Q := by
  rw [zam, f.h43]
  refine zay rfl ?_
  simp only [F_road_of, zas, List.map, List.length, List.replicate, List.cons_append, List.nil_append]
  rw [zai, x_set]
  simp
  refine zcx f.h32 f.h39 (k := k + 1) (v := v) e b.nd b.len fun n h1 e1 nl f1 => ?_
  have tl := zcn ts
  have bl := b.len
  refine road_sat f.h40 f.h41 f.h42 (k := k) e1 (by omega) hs (b.ends fun t => zan) (fun _ m ch h2 e2 _ wk cl f2 => ?_) fun nj => absurd j nj
  simp [zai, isNonP]
  exact q m ch h2 e2 wk cl (f1.trans f2)
end
end Sb
namespace Sb
open PySem
theorem any_addK (l : List L2.Key) (k j : L2.Key) : (addK l k).any (fun i => decide (i = j)) = (l.any (fun i => decide (i = j)) || decide (k = j)) := by
  unfold addK
  split
  · rename_i e
    by_cases z : k = j
    · subst z
      rw [e]
      rfl
    · rw [decide_eq_false z, Bool.or_false]
  · rw [List.any_append]
    simp
theorem any_fold (j : L2.Key) : ∀ (ks l : List L2.Key), (ks.foldl addK l).any (fun i => decide (i = j)) = (l.any (fun i => decide (i = j)) || ks.any fun i => decide (i = j))
  | [], l => by simp
  | k :: ks, l => by
    rw [List.foldl_cons, any_fold j ks, any_addK, Bool.or_assoc]
    rfl
theorem firsts_eq {h : PH} {n : Nat} {rows : List Tel} (e : h[n]? = some (.lst (rows.map Tel.pv))) (hl : rows.length < 1000) : firstsP (some (.ref n)) h = .ok (.ste ((rows.map fun t => Sum.inr t.name).foldl addK [])) h := by
  have m : mapO firstK (rows.map Tel.pv) = some (rows.map fun t => Sum.inr t.name) := by
    have := mapO_some (f := firstK) (l := rows.map Tel.pv) (g := fun v => (firstK v).getD (.inl 0)) (fun v hv => by
      obtain ⟨t, _, rfl⟩ := List.mem_map.mp hv
      rfl)
    rw [this, List.map_map]
    rfl
  simp only [firstsP, e, m, List.length_map, hl, if_true]
theorem notin_ste {h : PH} {rows : List Tel} (x : Str) : zbd .NotIn (.str x) (.ste ((rows.map fun t => Sum.inr t.name).foldl addK [])) h = .ok (.bl (!decide (x ∈ rows.map Tel.name))) h := by
  show ofO ((inP h (.str x) (.ste _)).map fun b => PV.bl (!b)) h = _
  simp only [inP, zce, Option.map_some, any_fold, List.any_nil, Bool.false_or]
  show R.ok (PV.bl (!((rows.map fun t => Sum.inr t.name).any fun i => decide (i = Sum.inr x)))) h = _
  congr 3
  rw [Bool.eq_iff_iff, List.any_eq_true, decide_eq_true_iff]
  constructor
  · rintro ⟨k, hk, e⟩
    obtain ⟨t, ht, rfl⟩ := List.mem_map.mp hk
    have : t.name = x := by simpa using e
    exact List.mem_map.mpr ⟨t, ht, this⟩
  · intro hx
    obtain ⟨t, ht, rfl⟩ := List.mem_map.mp hx
    exact ⟨_, List.mem_map.mpr ⟨t, ht, rfl⟩, by simp⟩
theorem tel_uniq {ts : List Tel} (nd : (ts.map Tel.name).Nodup) {u v : Tel} (hu : u ∈ ts) (hv : v ∈ ts) (en : v.name = u.name) : v = u := by
  obtain ⟨a1, b1⟩ := mem_get hv
  obtain ⟨a2, b2⟩ := mem_get hu
  have e1 : (ts.map Tel.name)[a1]? = some v.name := by rw [List.getElem?_map, b1]; rfl
  have e2 : (ts.map Tel.name)[a2]? = some u.name := by rw [List.getElem?_map, b2]; rfl
  have := (List.getElem?_inj (j := a2) (List.getElem?_eq_some_iff.mp e1).1 nd).mp (by rw [e1, e2, en])
  subst this
  rw [b1] at b2
  exact Option.some.inj b2
/-- a telling is no tie -/
def bar (ts : List Tel) (t : Tel) : Bool := !decide (t.name ∈ (zad ts).map Tel.name)
/-- the bars: a road of ties for each telling that is no tie -/
structure Bars (ns : List Str) (ts : List Tel) (h : PH) (l : List (L2.Key × PV)) : Prop where
  no : ∀ t ∈ ts, bar ts t = false → valP l (.inr t.name) = none
  yes : ∀ t ∈ ts, bar ts t = true → ∃ m ch, valP l (.inr t.name) = some (.ref m) ∧ h[m]? = some (.lst (ch.map stPV)) ∧ PathE (zad ts) t.st ch t.en ∧ ch.length < ns.length
section
variable {tbl : Nat → Fn} {k : Nat} {h : PH}
theorem bars_satW (f : TW tbl) (h46 : tbl 46 = F_bars_of) {v : PV} {ts : List Tel} {ns : List Str} (b : Bk ns ts) (hb : ts.length < 1000) (e : zbw h v = some (ts.map Tel.pv)) (J : ∀ t ∈ ts, Joined (zad ts) t.st t.en) {Q : PV → PH → Prop}
    (q : ∀ d l h', h'[d]? = some (.dct l) → h.length ≤ d → Bars ns ts h' l → Fr [] h h' → Q (.ref d) h') : (call tbl (k + 4) 46 [v] h).Sat Q := by
  rw [zam, h46]
  refine zay rfl ?_
  have tl := zcn ts
  simp only [F_bars_of, zas, List.map, List.length, List.replicate, List.cons_append, List.nil_append]
  rw [zai, x_set]
  simp
  refine zcx f.h32 f.h39 (k := k + 1) (v := v) e b.nd b.len fun n h1 e1 nl f1 => ?_
  rw [zai]
  simp [firsts_eq e1 (by omega)]
  rw [zai, x_set]
  have er := f1.seq e
  have io := in_order_eq (k := k + 2) (h := h1) (v := v) f.h32 er b.nd b.len
  generalize hS : zaj ts = S at io
  have sm : ∀ t, t ∈ S ↔ t ∈ ts := fun t => by rw [← hS]; exact (zar ts).mem_iff
  have sl : S.length = ts.length := by rw [← hS, sort_len]
  have snd : (S.map Tel.name).Nodup := by rw [← hS]; exact sort_nd b.nd
  generalize hh2 : h1 ++ [PO.lst (S.map Tel.pv)] = h2 at io
  have e2 : h2[h1.length]? = some (.lst (S.map Tel.pv)) := by rw [← hh2]; simp
  have f2 : Fr [] h h2 := by rw [← hh2]; exact f1.appNew
  have n2 : h2[n]? = some (.lst ((zad ts).map Tel.pv)) := by rw [← hh2]; exact (Fr.app (S := [])).some (by simp) e1
  refine v_compE (l := [.ref h1.length]) (h1 := h2) (by simp [io]) (zbf e2) (fun i acc h' => h' = h2 ∧ acc = ((S.take i).filter (bar ts)).map Tel.pv) ⟨rfl, by simp⟩ ?_ ?_
  · rintro i y acc h' hy ⟨rfl, rfl⟩
    rw [List.getElem?_map] at hy
    obtain ⟨u, hu, rfl⟩ := Option.map_eq_some_iff.mp hy
    have hi := (List.getElem?_eq_some_iff.mp hu).1
    refine ⟨zav e2, _, rfl, ?_⟩
    have fl : ((S.take i).filter (bar ts)).length ≤ i := Nat.le_trans (List.length_filter_le ..) (by rw [List.length_take]; omega)
    simp [zbi, pv0, notin_ste]
    by_cases hbar : u.name ∈ (zad ts).map Tel.name
    · left
      obtain ⟨v, hv, ev⟩ := List.mem_map.mp hbar
      refine ⟨⟨v, hv, ev⟩, ?_⟩
      rw [List.take_add_one, hu]
      have hbt : bar ts u = false := by
        unfold bar
        rw [decide_eq_true hbar]
        rfl
      simp [List.filter_append, List.filter, hbt]
    · right
      refine ⟨fun v hv ev => hbar (List.mem_map.mpr ⟨v, hv, ev⟩), zaq (by omega), ?_⟩
      rw [List.take_add_one, hu]
      have hbt : bar ts u = true := by
        unfold bar
        rw [decide_eq_false hbar]
        rfl
      simp [List.filter_append, List.filter, hbt]
  · rintro acc h' ⟨rfl, rfl⟩
    have fl : (S.filter (bar ts)).length ≤ S.length := List.length_filter_le ..
    have ls : (S.map Tel.pv).length = S.length := List.length_map ..
    rw [ls, List.take_length]
    refine ⟨zav e2, zaq (by rw [List.length_map]; omega), ?_⟩
    generalize hB : S.filter (bar ts) = B at fl
    have bm : ∀ t, t ∈ B ↔ t ∈ ts ∧ bar ts t = true := fun t => by rw [← hB, List.mem_filter, sm]
    have bnd : (B.map Tel.name).Nodup := by
      rw [← hB]
      exact (List.filter_sublist.map Tel.name).nodup snd
    generalize hh3 : h' ++ [PO.lst (B.map Tel.pv)] = h3
    have e3 : h3[h'.length]? = some (.lst (B.map Tel.pv)) := by rw [← hh3]; simp
    have n3 : h3[n]? = some (.lst ((zad ts).map Tel.pv)) := by rw [← hh3]; exact (Fr.app (S := [])).some (by simp) n2
    have f3 : Fr [] h h3 := by rw [← hh3]; exact f2.appNew
    rw [x_one, x_ret]
    refine v_dcompE (l := [.ref h'.length]) (h1 := h3) (by simp) (zbf e3) (fun i acc g => Fr [] h3 g ∧ acc.length ≤ i ∧ (∀ t ∈ B.take i, ∃ m ch, valP acc (.inr t.name) = some (.ref m) ∧ g[m]? = some (.lst (ch.map stPV)) ∧ PathE (zad ts) t.st ch t.en ∧ ch.length < ns.length) ∧ ∀ x, (∀ t ∈ B.take i, t.name ≠ x) → valP acc (.inr x) = none) ⟨Fr.refl _ _, by simp, by simp, fun _ _ => rfl⟩ ?_ ?_
    · rintro i y acc g hy ⟨fg, al, c1, c2⟩
      rw [List.getElem?_map] at hy
      obtain ⟨u, hu, rfl⟩ := Option.map_eq_some_iff.mp hy
      have hi := (List.getElem?_eq_some_iff.mp hu).1
      have um := (bm u).mp (List.mem_of_getElem? hu)
      have uk := b.ok u um.1
      refine ⟨zav (fg.some (by simp) e3), _, rfl, ?_⟩
      simp [zbi, pv0, pv1, pv2]
      refine road_sat f.h40 f.h41 f.h42 (k := k) (fg.some (by simp) n3) (by omega) uk.st (b.ends fun t => zan) (fun _ m ch g2 m1 _ wk cl fg2 => ?_) fun nj => absurd (J u um.1) nj
      refine ⟨.inr u.name, rfl, zaq (by omega), fg.trans fg2, Nat.le_trans (put_len ..) (by omega), fun t ht => ?_, fun x hx => ?_⟩
      · rw [List.take_add_one, hu] at ht
        rcases List.mem_append.mp ht with z | z
        · obtain ⟨m', ch', z1, z2, z3⟩ := c1 t z
          refine ⟨m', ?_, ch', fg2.some (by simp) z2, z3⟩
          rw [zbz, if_neg (by simpa using name_take bnd hu z)]
          exact z1
        · rw [show t = u by simpa using z]
          exact ⟨m, by rw [zbz, if_pos rfl], ch, m1, wk, cl⟩
      · rw [List.take_add_one, hu] at hx
        have xu : ¬ x = u.name := fun z => hx u (by simp) z.symm
        rw [zbz, if_neg (by simpa using xu)]
        exact c2 x fun t ht => hx t (List.mem_append_left _ ht)
    · rintro acc g ⟨fg, al, c1, c2⟩
      rw [List.length_map, List.take_length] at c1 c2
      refine ⟨zav (fg.some (by simp) e3), ?_⟩
      refine q g.length acc (g ++ [.dct acc]) (by simp) (Nat.le_trans f3.len fg.len) ⟨fun t ht hbt => ?_, fun t ht hbt => ?_⟩ ((f3.trans fg).appNew)
      · refine c2 _ fun u hu en => ?_
        have := (bm u).mp hu
        rw [tel_uniq b.nd ht this.1 en, hbt] at this
        cases this.2
      · obtain ⟨m, ch, z1, z2, z3⟩ := c1 t ((bm t).mpr ⟨ht, hbt⟩)
        exact ⟨m, ch, z1, (Fr.app (S := [])).some (by simp) z2, z3⟩
end
end Sb
namespace Sb
open PySem
theorem eq_mq (h : PH) (a b c d : Rat) : zbd .Eq (mq a b) (mq c d) h = .ok (.bl (decide ((a, b) = (c, d)))) h := by
  show ofO ((eqP h (mq a b) (mq c d)).map PV.bl) h = _
  have e : eqP h (mq a b) (mq c d) = some (((a.num == c.num) && (((a.den : Int) == (c.den : Int)) && true)) && (((b.num == d.num) && (((b.den : Int) == (d.den : Int)) && true)) && true)) := by
    simp [eqP, mq, fq, pd, mapO, PyData.eqv, PyData.eqvAll]
  rw [e]
  show R.ok (PV.bl _) h = _
  congr 2
  rw [Bool.eq_iff_iff]
  simp only [Bool.and_eq_true, beq_iff_eq, Bool.and_true, decide_eq_true_iff, Prod.mk.injEq]
  constructor
  · rintro ⟨⟨h1, h2⟩, h3, h4⟩
    exact ⟨Rat.ext h1 (by omega), Rat.ext h3 (by omega)⟩
  · rintro ⟨rfl, rfl⟩
    exact ⟨⟨rfl, rfl⟩, rfl, rfl⟩
def wordOf (ts : List Tel) (P : Str → Mv) (t : Tel) : Str := if bar ts t = true then (if rel P t.st t.en = (t.a, t.b) then "fits" else "aside") else "tie"
def wpv (ts : List Tel) (P : Str → Mv) (t : Tel) : PV := .tup [.str t.name, .str (wordOf ts P t)]
theorem in_dct' {h : PH} {d : Nat} {l : List (L2.Key × PV)} (e : h[d]? = some (.dct l)) (x : Str) : zbd .In (.str x) (.ref d) h = .ok (.bl (valP l (.inr x)).isSome) h := by
  show ofO ((inP h (.str x) (.ref d)).map PV.bl) h = _
  simp only [inP, e, zce]
  rfl
section
variable {tbl : Nat → Fn} {k : Nat} {h : PH}
theorem words_satW (f : TW tbl) (tm : TM tbl) (h46 : tbl 46 = F_bars_of) (h47 : tbl 47 = F_words_of) {v : PV} {ts : List Tel} {ns : List Str} (b : Bk ns ts) (hb : ts.length < 1000) (e : zbw h v = some (ts.map Tel.pv)) {P : Str → Mv} (R : Rows ts (zad ts) P) (J : ∀ t ∈ ts, Joined (zad ts) t.st t.en) {Q : PV → PH → Prop}
    (q : ∀ n h', h'[n]? = some (.lst ((zaj ts).map (wpv ts P))) → h.length ≤ n → Fr [] h h' → Q (.ref n) h') : (call tbl (k + 8) 47 [v] h).Sat Q := by
  rw [zam, h47]
  refine zay rfl ?_
  simp only [F_words_of, zas, List.map, List.length, List.replicate, List.cons_append, List.nil_append]
  rw [zai, x_set]
  simp
  refine bars_satW f h46 (k := k + 3) b hb e J fun d l h1 e1 dl br f1 => ?_
  rw [zai]
  simp [zaw]
  rw [zai]
  have dl1 := (List.getElem?_eq_some_iff.mp e1).1
  have e1' : zbw (h1 ++ [PO.lst []]) v = some (ts.map Tel.pv) := (f1.appNew).seq e
  have io := in_order_eq (k := k + 6) (h := h1 ++ [PO.lst []]) (v := v) f.h32 e1' b.nd b.len
  generalize hS : zaj ts = S at io
  have sm : ∀ t, t ∈ S ↔ t ∈ ts := fun t => by rw [← hS]; exact (zar ts).mem_iff
  have sl : S.length = ts.length := by rw [← hS, sort_len]
  have ll : (h1 ++ [PO.lst []]).length = h1.length + 1 := by simp
  rw [ll] at io
  generalize hh2 : h1 ++ [PO.lst []] ++ [PO.lst (S.map Tel.pv)] = h2 at io
  have a1 : h2[h1.length]? = some (.lst []) := by rw [← hh2]; simp
  have a2 : h2[h1.length + 1]? = some (.lst (S.map Tel.pv)) := by rw [← hh2]; simp
  have f2 : Fr [] h1 h2 := by rw [← hh2]; exact Fr.app.appNew
  have hl1 := f1.len
  obtain ⟨I, hI⟩ : ∃ I : Nat → Env → PH → Prop, I = fun i ρ h' => ∃ (o3 o4 o5 o6 : Option PV), ρ = [some v, some (.ref d), some (.ref h1.length), o3, o4, o5, o6] ∧ h'[h1.length]? = some (.lst ((S.take i).map (wpv ts P))) ∧ h'[h1.length + 1]? = some (.lst (S.map Tel.pv)) ∧ Fr [] h1 h' := ⟨_, rfl⟩
  refine x_forE (l := [.ref (h1.length + 1)]) (h1 := h2) (by simp [io]) (zbf a2) I (by rw [hI]; exact ⟨none, none, none, none, rfl, a1, a2, f2⟩) ?_ ?_
  · intro i y ρ h3 hy hi
    rw [hI] at hi
    obtain ⟨o3, o4, o5, o6, rfl, b1, b2, f3⟩ := hi
    rw [List.getElem?_map] at hy
    obtain ⟨u, hu, rfl⟩ := Option.map_eq_some_iff.mp hy
    have hi := (List.getElem?_eq_some_iff.mp hu).1
    have um := (sm u).mp (List.mem_of_getElem? hu)
    refine ⟨zav b2, _, rfl, ?_⟩
    simp only [List.set]
    rw [zai]
    simp [pv0, pv3, zbx]
    rw [zai]
    simp
    rw [zai]
    have last : ∀ (w : Str) (h4 : PH), w = wordOf ts P u → h4[h1.length]? = some (.lst ((S.take i).map (wpv ts P))) → h4[h1.length + 1]? = some (.lst (S.map Tel.pv)) → Fr [] h1 h4 →
        (exSs (call tbl (k + 7)) [.ex (.mth .append (.var 2) [(.tup [(.var 4), (.var 6)])])] [some v, some (.ref d), some (.ref h1.length), some u.pv, some (.str u.name), some (mq u.a u.b), some (.str w)] h4).Sat (I (i + 1)) Q := by
      intro w h4 hw c1 c2 f4
      have c3 := (List.getElem?_eq_some_iff.mp c1).1
      simp [ty_ref c1, MT.ty, mt_append c1 (by simp; omega)]
      rw [hI]
      refine ⟨_, _, _, _, rfl, ?_, by rw [za6 (by omega)]; exact c2, f4.setNew (Nat.le_refl _)⟩
      rw [set_at c1, List.take_add_one, hu, hw]
      simp [wpv]
    have d3 := f3.some (by simp) e1
    simp [in_dct' d3]
    cases hbu : bar ts u with
    | false =>
      have z := br.no u um hbu
      simp [z]
      have := last "tie" h3 (by unfold wordOf; rw [hbu]; rfl) b1 b2 f3
      simpa using this
    | true =>
      obtain ⟨m, ch, z1, z2, z3, z4⟩ := br.yes u um hbu
      simp [z1, idx_dct d3 z1]
      have nl := b.nl
      have r3 := f3.seq (f1.seq e)
      refine chain_move_sat tm f.h44 (k := k) R r3 b.len (f3.some (by simp) z2) (by omega) z3.walk fun h4 f4 => ?_
      simp [eq_mq]
      have c1 := f4.some (by simp) b1
      have c2 := f4.some (by simp) b2
      by_cases hr : rel P u.st u.en = (u.a, u.b)
      · have := last "fits" h4 (by unfold wordOf; rw [if_pos hbu, if_pos hr]) c1 c2 (f3.trans f4)
        simp [hr]
        simpa using this
      · have := last "aside" h4 (by unfold wordOf; rw [if_pos hbu, if_neg hr]) c1 c2 (f3.trans f4)
        have hr' : ¬ ((rel P u.st u.en).1 = u.a ∧ (rel P u.st u.en).2 = u.b) := fun z => hr (Prod.ext z.1 z.2)
        simp [hr']
        have hr2 : (rel P u.st u.en).1 = u.a → ¬ (rel P u.st u.en).2 = u.b := fun z1 z2 => hr' ⟨z1, z2⟩
        have hr3 : ((rel P u.st u.en).1 = u.a → ¬ (rel P u.st u.en).2 = u.b) = True := eq_true hr2
        simp only [hr3, true_and]
        simpa using this
  · intro ρ h3 hi
    rw [hI] at hi
    obtain ⟨o3, o4, o5, o6, rfl, b1, b2, f3⟩ := hi
    refine ⟨zav b2, ?_⟩
    rw [List.length_map, List.take_length] at b1
    simp
    exact q _ h3 (by rw [hS]; exact b1) hl1 (f1.trans f3)
end
end Sb
namespace Sb
open PySem
theorem joined_snoc {F : List Tel} {t : Tel} {x y : Str} (j : Joined (F ++ [t]) x y) : Joined F x y ∨ (Joined F x t.st ∧ Joined F t.en y) ∨ (Joined F x t.en ∧ Joined F t.st y) := by
  induction j with
  | refl => exact .inl (.refl _)
  | @step y u m j e ih =>
    rcases List.mem_append.mp m with hm | hm
    · rcases ih with a | ⟨a, b⟩ | ⟨a, b⟩
      · exact .inl (.step hm a e)
      · exact .inr (.inl ⟨a, .step hm b e⟩)
      · exact .inr (.inr ⟨a, .step hm b e⟩)
    · have hu := List.mem_singleton.mp hm
      subst hu
      subst e
      rcases ih with a | ⟨a, b⟩ | ⟨a, b⟩
      · exact .inr (.inl ⟨a, .refl _⟩)
      · exact .inl (a.trans b.symm)
      · exact .inl a
  | @back y u m j e ih =>
    rcases List.mem_append.mp m with hm | hm
    · rcases ih with a | ⟨a, b⟩ | ⟨a, b⟩
      · exact .inl (.back hm a e)
      · exact .inr (.inl ⟨a, .back hm b e⟩)
      · exact .inr (.inr ⟨a, .back hm b e⟩)
    · have hu := List.mem_singleton.mp hm
      subst hu
      subst e
      rcases ih with a | ⟨a, b⟩ | ⟨a, b⟩
      · exact .inr (.inr ⟨a, .refl _⟩)
      · exact .inl a
      · exact .inl (a.trans b.symm)
theorem joined_snoc_iff {F : List Tel} {t : Tel} {x y : Str} : Joined (F ++ [t]) x y ↔ Joined F x y ∨ (Joined F x t.st ∧ Joined F t.en y) ∨ (Joined F x t.en ∧ Joined F t.st y) := by
  refine ⟨joined_snoc, fun q => ?_⟩
  have up : ∀ {x y}, Joined F x y → Joined (F ++ [t]) x y := fun j => j.mono fun u hu => List.mem_append_left _ hu
  have jt : Joined (F ++ [t]) t.st t.en := Joined.of (by simp)
  rcases q with a | ⟨a, b⟩ | ⟨a, b⟩
  · exact up a
  · exact ((up a).trans jt).trans (up b)
  · exact ((up a).trans jt.symm).trans (up b)
theorem joined_congr {F G : List Tel} (h : ∀ t, t ∈ F ↔ t ∈ G) {x y : Str} : Joined F x y ↔ Joined G x y := ⟨fun j => j.mono fun t => (h t).mp, fun j => j.mono fun t => (h t).mpr⟩
theorem joined_skip {F : List Tel} {t : Tel} (h : Joined F t.st t.en) {x y : Str} : Joined (F ++ [t]) x y ↔ Joined F x y := ⟨fun j => j.into fun u hu => by
  rcases List.mem_append.mp hu with z | z
  · exact .of z
  · rw [List.mem_singleton.mp z]
    exact h, fun j => j.mono fun u hu => List.mem_append_left _ hu⟩
theorem ltT_irr (t : Tel) : ltT t t = false := by
  have := zcv t.key t.key
  simp at this
  simp [ltT, leT, this]
theorem lt_not {u t : Tel} (h : leT t u = true) : ltT u t = false := by simp [ltT, h]
theorem lt_of_le {u t : Tel} (h : leT u t = true) (n : u.name ≠ t.name) : ltT u t = true := by
  unfold ltT
  cases h2 : leT t u with
  | false => rfl
  | true => exact absurd (congrArg Prod.snd (leTel_anti h h2)) n
theorem le_of_lt {u t : Tel} (h : ltT u t = true) : leT u t = true := by
  have := zcv u.key t.key
  unfold ltT at h
  unfold leT at h ⊢
  cases h2 : leTel u.key t.key with
  | true => rfl
  | false =>
    rw [h2] at this
    simp at this
    rw [this] at h
    cases h
theorem lt_trans' {a b c : Tel} (h1 : ltT a b = true) (h2 : ltT b c = true) : ltT a c = true := by
  unfold ltT
  cases h3 : leT c a with
  | false => rfl
  | true =>
    have := leTel_trans c.key a.key b.key h3 (le_of_lt h1)
    have z : leT c b = true := this
    simp [ltT, z] at h2
/-- those ahead of one -/
def ahead (ts : List Tel) (t : Tel) : List Tel := ts.filter fun u => ltT u t
theorem mem_ahead {ts : List Tel} {t u : Tel} : u ∈ ahead ts t ↔ u ∈ ts ∧ ltT u t = true := List.mem_filter
/-- it joins two groups -/
def zbt (ts : List Tel) (t : Tel) : Prop := ¬ Joined (ahead ts t) t.st t.en
theorem pre_ahead {ts A C : List Tel} {t : Tel} (nd : (ts.map Tel.name).Nodup) (es : zaj ts = A ++ t :: C) : ∀ u, u ∈ A ↔ u ∈ ahead ts t := by
  intro u
  have o := sort_pair ts
  have nd' := sort_nd nd
  have sm : u ∈ ts ↔ u ∈ A ++ t :: C := by rw [← es]; exact (zar ts).mem_iff.symm
  rw [es] at o nd'
  rw [List.pairwise_append] at o
  obtain ⟨_, o2, o3⟩ := o
  rw [List.pairwise_cons] at o2
  rw [List.map_append, List.nodup_append] at nd'
  rw [mem_ahead, sm]
  constructor
  · intro hu
    refine ⟨List.mem_append_left _ hu, lt_of_le (o3 u hu t (List.mem_cons_self ..)) ?_⟩
    exact nd'.2.2 _ (List.mem_map.mpr ⟨u, hu, rfl⟩) _ (List.mem_map.mpr ⟨t, List.mem_cons_self .., rfl⟩)
  · rintro ⟨hm, hl⟩
    rcases List.mem_append.mp hm with z | z
    · exact z
    · rcases List.mem_cons.mp z with rfl | z
      · rw [ltT_irr] at hl
        cases hl
      · rw [lt_not (o2.1 u z)] at hl
        cases hl
open Classical in
/-- the ties of a list, those of pre being ahead -/
noncomputable def tiesJ : List Tel → List Tel → List Tel
  | _, [] => []
  | pre, t :: r => if Joined pre t.st t.en then tiesJ (pre ++ [t]) r else t :: tiesJ (pre ++ [t]) r
theorem ties_J : ∀ (l : List Tel) (mk : Str → Str) (pre : List Tel), (∀ x y, mk x = mk y ↔ Joined pre x y) → ties mk l = tiesJ pre l
  | [], _, _, _ => rfl
  | t :: r, mk, pre, hj => by
    unfold ties tiesJ
    by_cases e : mk t.st = mk t.en
    · have j := (hj _ _).mp e
      rw [if_pos e, if_pos j]
      exact ties_J r mk _ fun x y => (hj x y).trans (joined_skip j).symm
    · have j : ¬ Joined pre t.st t.en := fun z => e ((hj _ _).mpr z)
      rw [if_neg e, if_neg j]
      congr 1
      refine ties_J r _ _ fun x y => ?_
      rw [joined_snoc_iff, ← hj, ← hj, ← hj, ← hj, ← hj]
      unfold reMark
      by_cases hx : mk x = mk t.en
      · rw [if_pos hx]
        by_cases hy : mk y = mk t.en
        · rw [if_pos hy]
          exact ⟨fun _ => .inl (hx.trans hy.symm), fun _ => rfl⟩
        · rw [if_neg hy]
          constructor
          · intro z
            exact .inr (.inr ⟨hx, z⟩)
          · rintro (z | ⟨_, z⟩ | ⟨_, z⟩)
            · exact absurd (z.symm.trans hx) hy
            · exact absurd z.symm hy
            · exact z
      · rw [if_neg hx]
        by_cases hy : mk y = mk t.en
        · rw [if_pos hy]
          constructor
          · intro z
            exact .inr (.inl ⟨z, hy.symm⟩)
          · rintro (z | ⟨z, _⟩ | ⟨z, _⟩)
            · exact absurd (z.trans hy) hx
            · exact z
            · exact absurd z hx
        · rw [if_neg hy]
          constructor
          · intro z
            exact .inl z
          · rintro (z | ⟨_, z⟩ | ⟨z, _⟩)
            · exact z
            · exact absurd z.symm hy
            · exact absurd z hx
open Classical in
theorem tiesJ_filter {ts : List Tel} (nd : (ts.map Tel.name).Nodup) : ∀ (l pre : List Tel), zaj ts = pre ++ l → tiesJ pre l = l.filter fun t => decide (zbt ts t)
  | [], _, _ => rfl
  | t :: r, pre, es => by
    have ih := tiesJ_filter nd r (pre ++ [t]) (by rw [es]; simp)
    unfold tiesJ
    have jc : Joined pre t.st t.en ↔ Joined (ahead ts t) t.st t.en := joined_congr (pre_ahead nd es)
    by_cases j : Joined pre t.st t.en
    · rw [if_pos j, ih, List.filter_cons_of_neg]
      rw [decide_eq_true_eq]
      exact fun z => z (jc.mp j)
    · rw [if_neg j, ih, List.filter_cons_of_pos]
      rw [decide_eq_true_eq]
      exact fun z => j (jc.mpr z)
theorem joined_nil {x y : Str} (j : Joined [] x y) : x = y := by
  induction j with
  | refl => rfl
  | step m => cases m
  | back m => cases m
open Classical in
theorem zcd {ts : List Tel} (nd : (ts.map Tel.name).Nodup) : zad ts = (zaj ts).filter fun t => decide (zbt ts t) := by
  unfold zad
  rw [ties_J (zaj ts) id [] fun x y => ⟨fun e => by rw [show x = y from e]; exact .refl _, joined_nil⟩]
  exact tiesJ_filter nd _ _ rfl
theorem zcl {ts : List Tel} (nd : (ts.map Tel.name).Nodup) {t : Tel} : t ∈ zad ts ↔ t ∈ ts ∧ zbt ts t := by
  rw [zcd nd, List.mem_filter, (zar ts).mem_iff]
  simp
/-- what is joined by those ahead is so by the ties among them -/
theorem ties_prefix {ts : List Tel} (nd : (ts.map Tel.name).Nodup) : ∀ (i : Nat), ∀ u ∈ (zaj ts).take i, Joined ((zad ts).filter fun v => leT v u) u.st u.en
  | 0, _, h => by simp at h
  | i + 1, u, h => by
    cases hi : (zaj ts)[i]? with
    | none =>
      rw [List.take_add_one, hi] at h
      exact ties_prefix nd i u (by simpa using h)
    | some t =>
      rw [List.take_add_one, hi] at h
      rcases List.mem_append.mp h with z | z
      · exact ties_prefix nd i u z
      · have eu : u = t := by simpa using z
        subst eu
        have um : u ∈ ts := (zar ts).mem_iff.mp (List.mem_of_getElem? hi)
        by_cases ht : zbt ts u
        · refine Joined.of (List.mem_filter.mpr ⟨(zcl nd).mpr ⟨um, ht⟩, ?_⟩)
          have := zcv u.key u.key
          simpa [leT] using this
        · have j : Joined (ahead ts u) u.st u.en := Classical.byContradiction ht
          refine j.into fun v hv => ?_
          have hi' := (List.getElem?_eq_some_iff.mp hi)
          have es : zaj ts = (zaj ts).take i ++ u :: (zaj ts).drop (i + 1) := by
            conv => lhs; rw [← List.take_append_drop i (zaj ts), List.drop_eq_getElem_cons hi'.1, hi'.2]
          have vp := (pre_ahead nd es v).mpr hv
          refine (ties_prefix nd i v vp).mono fun w hw => ?_
          obtain ⟨w1, w2⟩ := List.mem_filter.mp hw
          exact List.mem_filter.mpr ⟨w1, leTel_trans w.key v.key u.key w2 (le_of_lt (mem_ahead.mp hv).2)⟩
theorem joined_ties {ts : List Tel} (nd : (ts.map Tel.name).Nodup) {u : Tel} (h : u ∈ ts) : Joined ((zad ts).filter fun v => leT v u) u.st u.en := by
  refine ties_prefix nd (zaj ts).length u ?_
  rw [List.take_length]
  exact (zar ts).mem_iff.mpr h
theorem zc4 {ts : List Tel} (nd : (ts.map Tel.name).Nodup) {u : Tel} (h : u ∈ ts) : Joined (zad ts) u.st u.en := (joined_ties nd h).mono fun v hv => (List.mem_filter.mp hv).1
theorem joined_ahead {ts : List Tel} (nd : (ts.map Tel.name).Nodup) {t : Tel} {x y : Str} : Joined (ahead ts t) x y ↔ Joined (ahead (zad ts) t) x y := by
  constructor
  · intro j
    refine j.into fun u hu => ?_
    obtain ⟨h1, h2⟩ := mem_ahead.mp hu
    refine (joined_ties nd h1).mono fun v hv => ?_
    obtain ⟨v1, v2⟩ := List.mem_filter.mp hv
    refine mem_ahead.mpr ⟨v1, ?_⟩
    unfold ltT at h2 ⊢
    cases z : leT t v with
    | false => rfl
    | true =>
      have z2 : leT t u = true := leTel_trans t.key v.key u.key z v2
      rw [z2] at h2
      cases h2
  · intro j
    exact j.mono fun u hu => mem_ahead.mpr ⟨zan (mem_ahead.mp hu).1, (mem_ahead.mp hu).2⟩
inductive Forest : List Tel → Prop
  | nil : Forest []
  | snoc {F : List Tel} {t : Tel} (f : Forest F) (n : ¬ Joined F t.st t.en) : Forest (F ++ [t])
theorem steps_app {F G : List Tel} {x : Str} : zax (F ++ G) x = zax F x ++ zax G x := by simp [zax]
theorem Path.vmem {rows : List Tel} {s x : Str} {vs : List Str} {c : List Step} (w : Path rows s vs c x) : x ∈ vs ∧ s ∈ vs := by
  induction w with
  | nil => simp
  | snoc w m n ih => exact ⟨by simp, List.mem_append_left _ ih.2⟩
theorem Path.split {F : List Tel} {t : Tel} (nj : ¬ Joined F t.st t.en) {s x : Str} {vs : List Str} {c : List Step} (w : Path (F ++ [t]) s vs c x) :
    Path F s vs c x ∨ (∃ v1 v2 c1 c2, vs = v1 ++ v2 ∧ c = c1 ++ [(t.name, true)] ++ c2 ∧ Path F s v1 c1 t.st ∧ Path F t.en v2 c2 x) ∨ (∃ v1 v2 c1 c2, vs = v1 ++ v2 ∧ c = c1 ++ [(t.name, false)] ++ c2 ∧ Path F s v1 c1 t.en ∧ Path F t.st v2 c2 x) := by
  have ne : t.st ≠ t.en := fun z => nj (by rw [z]; exact .refl _)
  induction w with
  | nil => exact .inl .nil
  | @snoc vs c y p w m n ih =>
    rw [steps_app, List.mem_append] at m
    rcases ih with a | ⟨v1, v2, c1, c2, rfl, rfl, a, b⟩ | ⟨v1, v2, c1, c2, rfl, rfl, a, b⟩
    · rcases m with m | m
      · exact .inl (a.snoc m n)
      · obtain ⟨u, hu, ⟨rfl, hx⟩ | ⟨rfl, hx⟩⟩ := zb0 m
        · rw [List.mem_singleton.mp hu] at hx n ⊢
          subst hx
          exact .inr (.inl ⟨vs, [t.en], c, [], rfl, by simp, a, .nil⟩)
        · rw [List.mem_singleton.mp hu] at hx n ⊢
          subst hx
          exact .inr (.inr ⟨vs, [t.st], c, [], rfl, by simp, a, .nil⟩)
    · rcases m with m | m
      · exact .inr (.inl ⟨v1, v2 ++ [p.2], c1, c2 ++ [p.1], by simp, by simp, a, b.snoc m fun z => n (List.mem_append_right _ z)⟩)
      · obtain ⟨u, hu, ⟨rfl, hx⟩ | ⟨rfl, hx⟩⟩ := zb0 m
        · rw [List.mem_singleton.mp hu] at hx
          subst hx
          exact absurd b.walk.joined.symm nj
        · rw [List.mem_singleton.mp hu] at hx n
          exact absurd (List.mem_append_left _ a.vmem.1) n
    · rcases m with m | m
      · exact .inr (.inr ⟨v1, v2 ++ [p.2], c1, c2 ++ [p.1], by simp, by simp, a, b.snoc m fun z => n (List.mem_append_right _ z)⟩)
      · obtain ⟨u, hu, ⟨rfl, hx⟩ | ⟨rfl, hx⟩⟩ := zb0 m
        · rw [List.mem_singleton.mp hu] at hx n
          exact absurd (List.mem_append_left _ a.vmem.1) n
        · rw [List.mem_singleton.mp hu] at hx
          subst hx
          exact absurd b.walk.joined nj
theorem Path.uniq {F : List Tel} (fo : Forest F) : ∀ {s x : Str} {vs vs' : List Str} {c c' : List Step}, Path F s vs c x → Path F s vs' c' x → c = c' ∧ vs = vs' := by
  induction fo with
  | nil =>
    intro s x vs vs' c c' a b
    have no : ∀ {vs c x}, Path [] s vs c x → c = [] ∧ vs = [s] := fun w => by
      cases w with
      | nil => exact ⟨rfl, rfl⟩
      | snoc w m n => simp [zax] at m
    rw [(no a).1, (no a).2, (no b).1, (no b).2]
    exact ⟨rfl, rfl⟩
  | @snoc F t f nj ih =>
    intro s x vs vs' c c' a b
    rcases a.split nj with a | ⟨v1, v2, c1, c2, rfl, rfl, a1, a2⟩ | ⟨v1, v2, c1, c2, rfl, rfl, a1, a2⟩ <;> rcases b.split nj with b | ⟨w1, w2, d1, d2, rfl, rfl, b1, b2⟩ | ⟨w1, w2, d1, d2, rfl, rfl, b1, b2⟩
    · exact ih a b
    · exact absurd ((b1.walk.joined.symm.trans a.walk.joined).trans b2.walk.joined.symm) nj
    · exact absurd ((b2.walk.joined.trans a.walk.joined.symm).trans b1.walk.joined) nj
    · exact absurd ((a1.walk.joined.symm.trans b.walk.joined).trans a2.walk.joined.symm) nj
    · obtain ⟨e1, e2⟩ := ih a1 b1
      obtain ⟨e3, e4⟩ := ih a2 b2
      rw [e1, e2, e3, e4]
      exact ⟨rfl, rfl⟩
    · exact absurd (a1.walk.joined.symm.trans b1.walk.joined) nj
    · exact absurd ((a2.walk.joined.trans b.walk.joined.symm).trans a1.walk.joined) nj
    · exact absurd (b1.walk.joined.symm.trans a1.walk.joined) nj
    · obtain ⟨e1, e2⟩ := ih a1 b1
      obtain ⟨e3, e4⟩ := ih a2 b2
      rw [e1, e2, e3, e4]
      exact ⟨rfl, rfl⟩
open Classical in
theorem ties_forest {ts : List Tel} (nd : (ts.map Tel.name).Nodup) : Forest (zad ts) := by
  have key : ∀ i, Forest (((zaj ts).take i).filter fun t => decide (zbt ts t)) := by
    intro i
    induction i with
    | zero => simpa using Forest.nil
    | succ i ih =>
      cases hi : (zaj ts)[i]? with
      | none => rw [List.take_add_one, hi]; simpa using ih
      | some t =>
        rw [List.take_add_one, hi, Option.toList_some, List.filter_append]
        by_cases ht : zbt ts t
        · rw [show [t].filter (fun t => decide (zbt ts t)) = [t] by simp [ht]]
          refine ih.snoc fun j => ht ?_
          have hi' := (List.getElem?_eq_some_iff.mp hi)
          have es : zaj ts = (zaj ts).take i ++ t :: (zaj ts).drop (i + 1) := by
            conv => lhs; rw [← List.take_append_drop i (zaj ts), List.drop_eq_getElem_cons hi'.1, hi'.2]
          exact j.mono fun u hu => (pre_ahead nd es u).mp (List.mem_filter.mp hu).1
        · rw [show [t].filter (fun t => decide (zbt ts t)) = [] by simp [ht], List.append_nil]
          exact ih
  have := key (zaj ts).length
  rw [List.take_length, ← zcd nd] at this
  exact this
theorem road_uniq {ts : List Tel} (nd : (ts.map Tel.name).Nodup) {s x : Str} {c c' : List Step} (a : PathE (zad ts) s c x) (b : PathE (zad ts) s c' x) : c = c' := by
  obtain ⟨_, a⟩ := a
  obtain ⟨_, b⟩ := b
  exact (a.uniq (ties_forest nd) b).1
theorem rel_uniq {F : List Tel} {P Q : Str → Mv} (p0 : ∀ z, (P z).1 ≠ 0) (q0 : ∀ z, (Q z).1 ≠ 0) (pa : ∀ t ∈ F, Agrees P t) (qa : ∀ t ∈ F, Agrees Q t) {x y : Str} (j : Joined F x y) : rel P x y = rel Q x y := by
  induction j with
  | refl => rw [rel_self (p0 _), rel_self (q0 _)]
  | @step y u m j e ih =>
    rw [← rel_thn (y := y) (p0 _), ← rel_thn (P := Q) (y := y) (q0 _), ih, e]
    have h1 := pa u m
    have h2 := qa u m
    unfold Agrees at h1 h2
    rw [← h1, ← h2]
  | @back y u m j e ih =>
    rw [← rel_thn (y := y) (p0 _), ← rel_thn (P := Q) (y := y) (q0 _), ih, e]
    have h1 := pa u m
    have h2 := qa u m
    unfold Agrees at h1 h2
    rw [← rel_bck (p0 u.st) (p0 u.en), ← rel_bck (q0 u.st) (q0 u.en), ← h1, ← h2]
/-- these tellings, if they agree, tell of x and y this move -/
def Says (F : List Tel) (x y : Str) (m : Mv) : Prop := Joined F x y ∧ ∀ P : Str → Mv, (∀ z, (P z).1 ≠ 0) → (∀ t ∈ F, Agrees P t) → rel P x y = m
theorem says_iff {F : List Tel} {P : Str → Mv} (p0 : ∀ z, (P z).1 ≠ 0) (pa : ∀ t ∈ F, Agrees P t) {x y : Str} {m : Mv} : Says F x y m ↔ Joined F x y ∧ rel P x y = m := ⟨fun ⟨j, h⟩ => ⟨j, h P p0 pa⟩, fun ⟨j, h⟩ => ⟨j, fun Q q0 qa => by rw [← rel_uniq p0 q0 pa qa j]; exact h⟩⟩
theorem Says.mono {F G : List Tel} (h : ∀ t ∈ F, t ∈ G) {x y : Str} {m : Mv} (s : Says F x y m) : Says G x y m := ⟨s.1.mono h, fun P p0 pa => s.2 P p0 fun t ht => pa t (h t ht)⟩
open Classical in
/-- the word of a telling -/
noncomputable def word (ts : List Tel) (t : Tel) : Str := if zbt ts t then "tie" else if Says (zad ts) t.st t.en (t.a, t.b) then "fits" else "aside"
theorem bar_iff {ts : List Tel} (nd : (ts.map Tel.name).Nodup) {t : Tel} (h : t ∈ ts) : bar ts t = true ↔ ¬ zbt ts t := by
  unfold bar
  simp only [Bool.not_eq_true', decide_eq_false_iff_not]
  refine not_congr ⟨fun hm => ?_, fun hi => List.mem_map.mpr ⟨t, (zcl nd).mpr ⟨h, hi⟩, rfl⟩⟩
  obtain ⟨v, hv, ev⟩ := List.mem_map.mp hm
  rw [tel_uniq nd h (zan hv) ev] at hv
  exact ((zcl nd).mp hv).2
theorem word_eq {ts : List Tel} {P : Str → Mv} (R : Rows ts (zad ts) P) {t : Tel} (h : t ∈ ts) : wordOf ts P t = word ts t := by
  unfold wordOf word
  by_cases ht : zbt ts t
  · rw [if_pos ht, if_neg (fun z => (bar_iff R.nd h).mp z ht)]
  · rw [if_neg ht, if_pos ((bar_iff R.nd h).mpr ht)]
    have := says_iff R.p0 R.ag (x := t.st) (y := t.en) (m := (t.a, t.b))
    by_cases hs : Says (zad ts) t.st t.en (t.a, t.b)
    · rw [if_pos hs, if_pos (this.mp hs).2]
    · rw [if_neg hs, if_neg fun z => hs (this.mpr ⟨zc4 R.nd h, z⟩)]
end Sb
namespace Sb
open PySem
theorem Path.nodup {rows : List Tel} {s x : Str} {vs : List Str} {c : List Step} (w : Path rows s vs c x) : vs.Nodup ∧ vs.length = c.length + 1 := by
  induction w with
  | nil => simp
  | snoc w m n ih =>
    refine ⟨?_, by simp [ih.2]⟩
    rw [List.nodup_append]
    refine ⟨ih.1, by simp, fun a ha b hb z => n ?_⟩
    rw [← List.mem_singleton.mp hb, ← z]
    exact ha
theorem Path.among {rows : List Tel} {s x : Str} {vs : List Str} {c : List Step} (w : Path rows s vs c x) : ∀ v ∈ vs, v = s ∨ v ∈ ends rows := by
  induction w with
  | nil => simp
  | snoc w m n ih =>
    intro v hv
    rcases List.mem_append.mp hv with z | z
    · exact ih v z
    · rw [List.mem_singleton.mp z]
      exact .inr (steps_ends m)
theorem Path.pre {rows : List Tel} {s x : Str} {vs : List Str} {c : List Step} (w : Path rows s vs c x) : ∀ v ∈ vs, ∃ vs' c', Path rows s vs' c' v := by
  induction w with
  | nil =>
    intro v hv
    rw [List.mem_singleton.mp hv]
    exact ⟨_, _, .nil⟩
  | snoc w m n ih =>
    intro v hv
    rcases List.mem_append.mp hv with z | z
    · exact ih v z
    · rw [List.mem_singleton.mp z]
      exact ⟨_, _, w.snoc m n⟩
theorem Joined.path {rows : List Tel} {s x : Str} (j : Joined rows s x) : ∃ vs c, Path rows s vs c x := by
  have add : ∀ {y : Str} {p : Step × Str}, (∃ vs c, Path rows s vs c y) → p ∈ zax rows y → ∃ vs c, Path rows s vs c p.2 := by
    rintro y p ⟨vs, c, w⟩ m
    by_cases h : p.2 ∈ vs
    · exact w.pre _ h
    · exact ⟨_, _, w.snoc m h⟩
  induction j with
  | refl => exact ⟨_, _, .nil⟩
  | @step y t m j e ih => exact add ih (p := ((t.name, true), t.en)) (by rw [e]; exact steps_forth m)
  | @back y t m j e ih => exact add ih (p := ((t.name, false), t.st)) (by rw [e]; exact steps_back m)
theorem Path.short {rows : List Tel} {s x : Str} {vs : List Str} {c : List Step} (w : Path rows s vs c x) {ns : List Str} (hs : s ∈ ns) (he : ∀ x ∈ ends rows, x ∈ ns) : c.length < ns.length := by
  have := nodup_len (A := vs) (B := ns) w.nodup.1 fun v hv => (w.among v hv).elim (fun z => by rw [z]; exact hs) (he v)
  have := w.nodup.2
  omega
/-- how great the numbers of a path's move are -/
theorem Path.size {rows : List Tel} {s x : Str} {vs : List Str} {c : List Step} (w : Path rows s vs c x) {P : Str → Mv} (p0 : ∀ z, (P z).1 ≠ 0) (pa : ∀ t ∈ rows, Agrees P t) (qa : ∀ t ∈ rows, t.a ≠ 0 ∧ Qs 40 t.a ∧ Qs 100 t.b) : Qs (1 + 61 * c.length) (rel P s x).1 ∧ Qs (1 + 184 * c.length) (rel P s x).2 := by
  induction w with
  | nil =>
    rw [rel_self (p0 s)]
    exact ⟨q1, q0⟩
  | @snoc vs c y p w m n ih =>
    rw [← rel_thn (y := y) (p0 y)]
    have key : ∀ cd : Mv, Qs 41 cd.1 → Qs 142 cd.2 → Qs (1 + 61 * (c ++ [p.1]).length) (thn2 (rel P s y) cd).1 ∧ Qs (1 + 184 * (c ++ [p.1]).length) (thn2 (rel P s y) cd).2 := fun cd h1 h2 => by
      have l : (c ++ [p.1]).length = c.length + 1 := by simp
      rw [l]
      exact ⟨(h1.mul ih.1).mono (by omega), ((h1.mul ih.2).add h2).mono (by omega)⟩
    obtain ⟨t, ht, ⟨rfl, hx⟩ | ⟨rfl, hx⟩⟩ := zb0 m
    · have := pa t ht
      unfold Agrees at this
      subst hx
      rw [← this]
      exact key (t.a, t.b) ((qa t ht).2.1.mono (by decide)) ((qa t ht).2.2.mono (by decide))
    · have := pa t ht
      unfold Agrees at this
      subst hx
      rw [← rel_bck (p0 t.st) (p0 t.en), ← this]
      have ua := qa t ht
      exact key (bck (t.a, t.b)) ((q1.div ua.2.1 (num_ne ua.1)).mono (by decide)) (((q0.sub ua.2.2).div ua.2.1 (num_ne ua.1)).mono (by decide))
structure MD (ns : List Str) (l : List (L2.Key × PV)) (f : Str → PV) (seen : Str → Prop) : Prop where
  nd : (l.map (·.1)).Nodup
  at_ : ∀ x, seen x → valP l (.inr x) = some (f x)
  no : ∀ x, ¬ seen x → valP l (.inr x) = none
  ky : ∀ kv ∈ l, ∃ x ∈ ns, kv.1 = .inr x
theorem MD.len {ns : List Str} {l : List (L2.Key × PV)} {f : Str → PV} {seen : Str → Prop} (m : MD ns l f seen) : l.length ≤ ns.length := by
  have := nodup_len (A := l.map (·.1)) (B := ns.map Sum.inr) m.nd fun k hk => by
    obtain ⟨kv, h1, rfl⟩ := List.mem_map.mp hk
    obtain ⟨x, hx, e⟩ := m.ky kv h1
    rw [e]
    exact List.mem_map.mpr ⟨x, hx, rfl⟩
  rwa [List.length_map, List.length_map] at this
open Classical in
theorem put_keys {l : List (L2.Key × PV)} {k : L2.Key} {v : PV} : (putP l k v).map (·.1) = if k ∈ l.map (·.1) then l.map (·.1) else l.map (·.1) ++ [k] := by
  by_cases h : k ∈ l.map (·.1)
  · rw [if_pos h]
    unfold putP
    rw [if_pos (by obtain ⟨kv, h1, h2⟩ := List.mem_map.mp h; exact List.any_eq_true.mpr ⟨kv, h1, by simpa using h2⟩), List.map_map]
    refine List.map_congr_left fun kv _ => ?_
    simp only [Function.comp_apply]
    split <;> rfl
  · rw [if_neg h, put_new h]
    simp
theorem MD.put {ns : List Str} {l : List (L2.Key × PV)} {f : Str → PV} {seen : Str → Prop} (m : MD ns l f seen) {x : Str} (hx : x ∈ ns) (v : PV) : MD ns (putP l (.inr x) v) (fun y => if y = x then v else f y) fun y => seen y ∨ y = x := by
  refine ⟨?_, fun y hy => ?_, fun y hy => ?_, fun kv hk => ?_⟩
  · rw [put_keys]
    split
    · exact m.nd
    · rename_i h
      rw [List.nodup_append]
      refine ⟨m.nd, by simp, fun a ha b hb z => h ?_⟩
      rw [← List.mem_singleton.mp hb, ← z]
      exact ha
  · rw [zbz]
    by_cases e : y = x
    · subst e
      rw [if_pos rfl, if_pos rfl]
    · rw [if_neg (by simpa using e), if_neg e]
      exact m.at_ y (hy.resolve_right e)
  · rw [zbz, if_neg (by simpa using fun z : y = x => hy (.inr z))]
    exact m.no y fun z => hy (.inl z)
  · have : kv.1 ∈ (putP l (.inr x) v).map (·.1) := List.mem_map.mpr ⟨kv, hk, rfl⟩
    rw [put_keys] at this
    have old : kv.1 ∈ l.map (·.1) → ∃ x ∈ ns, kv.1 = .inr x := fun h => by
      obtain ⟨kv', h1, h2⟩ := List.mem_map.mp h
      rw [← h2]
      exact m.ky kv' h1
    split at this
    · exact old this
    · rcases List.mem_append.mp this with z | z
      · exact old z
      · exact ⟨x, hx, List.mem_singleton.mp z⟩
theorem MD.nil (ns : List Str) (f : Str → PV) : MD ns [] f fun _ => False := ⟨List.nodup_nil, fun _ h => h.elim, fun _ _ => rfl, by simp⟩
open Classical in
noncomputable def tieTake (ts : List Tel) (i : Nat) : List Tel := ((zaj ts).take i).filter fun t => decide (zbt ts t)
theorem mem_tieTake {ts : List Tel} {i : Nat} {t : Tel} : t ∈ tieTake ts i ↔ t ∈ (zaj ts).take i ∧ zbt ts t := by
  unfold tieTake
  rw [List.mem_filter]
  simp
theorem tieTake_sub {ts : List Tel} (nd : (ts.map Tel.name).Nodup) {i : Nat} {t : Tel} (h : t ∈ tieTake ts i) : t ∈ zad ts := (zcl nd).mpr ⟨(zar ts).mem_iff.mp (List.mem_of_mem_take (mem_tieTake.mp h).1), (mem_tieTake.mp h).2⟩
theorem split_at {ts : List Tel} {i : Nat} {t : Tel} (hi : (zaj ts)[i]? = some t) : zaj ts = (zaj ts).take i ++ t :: (zaj ts).drop (i + 1) := by
  obtain ⟨h1, h2⟩ := List.getElem?_eq_some_iff.mp hi
  conv => lhs; rw [← List.take_append_drop i (zaj ts), List.drop_eq_getElem_cons h1, h2]
theorem take_joined {ts : List Tel} (nd : (ts.map Tel.name).Nodup) : ∀ (i : Nat), ∀ u ∈ (zaj ts).take i, Joined (tieTake ts i) u.st u.en
  | 0, _, h => by simp at h
  | i + 1, u, h => by
    have up : ∀ {x y}, Joined (tieTake ts i) x y → Joined (tieTake ts (i + 1)) x y := fun j => j.mono fun v hv => by
      rw [mem_tieTake] at hv ⊢
      exact ⟨by rw [List.take_add_one]; exact List.mem_append_left _ hv.1, hv.2⟩
    rw [List.take_add_one] at h
    rcases List.mem_append.mp h with z | z
    · exact up (take_joined nd i u z)
    · cases hi : (zaj ts)[i]? with
      | none => rw [hi] at z; simp at z
      | some t =>
        rw [hi] at z
        have eu : u = t := by simpa using z
        subst eu
        by_cases ht : zbt ts u
        · refine Joined.of (mem_tieTake.mpr ⟨?_, ht⟩)
          rw [List.take_add_one, hi]
          simp
        · have j : Joined (ahead ts u) u.st u.en := Classical.byContradiction ht
          exact up (((joined_congr (pre_ahead nd (split_at hi))).mpr j).into (take_joined nd i))
theorem take_joined_iff {ts : List Tel} (nd : (ts.map Tel.name).Nodup) {i : Nat} {x y : Str} : Joined ((zaj ts).take i) x y ↔ Joined (tieTake ts i) x y := ⟨fun j => j.into (take_joined nd i), fun j => j.mono fun t ht => (mem_tieTake.mp ht).1⟩
end Sb
namespace Sb
open PySem
structure LW (ns : List Str) (ts : List Tel) (i : Nat) (mk : Str → Str) (P : Str → Mv) (seen : Str → Prop) : Prop where
  jn : ∀ x y, mk x = mk y ↔ Joined ((zaj ts).take i) x y
  idm : ∀ x, mk (mk x) = mk x
  p0 : ∀ x, (P x).1 ≠ 0
  ag : ∀ t ∈ tieTake ts i, Agrees P t
  rt : ∀ x, P (mk x) = one2
  un : ∀ x, ¬ seen x → mk x = x ∧ P x = one2
  ms : ∀ x, seen x → seen (mk x)
  sn : ∀ x, seen x → x ∈ ns
theorem one_ne : (one2).1 ≠ 0 := by show (1 : Rat) ≠ 0; decide
section
variable {ns : List Str} {ts : List Tel} {i : Nat} {mk : Str → Str} {P : Str → Mv} {seen : Str → Prop} {t : Tel}
theorem LW.root (L : LW ns ts i mk P seen) (x : Str) : P x = rel P (mk x) x := by
  unfold rel
  rw [L.rt x]
  have : bck one2 = one2 := by
    have := thn_bck (p := one2) one_ne
    rwa [one_thn] at this
  rw [this, one_thn]
theorem LW.size (L : LW ns ts i mk P seen) (b : Bk ns ts) (hn : ns.length ≤ 16) (x : Str) : Qs 916 (P x).1 ∧ Qs 2761 (P x).2 := by
  by_cases hs : seen x
  · have j : Joined (tieTake ts i) (mk x) x := (take_joined_iff b.nd).mp ((L.jn _ _).mp (L.idm x))
    obtain ⟨vs, c, w⟩ := j.path
    have sub : ∀ t ∈ tieTake ts i, t ∈ ts := fun t ht => zan (tieTake_sub b.nd ht)
    have l := w.short (L.sn _ (L.ms x hs)) (b.ends sub)
    have := w.size L.p0 L.ag fun t ht => ⟨(b.ok t (sub t ht)).a0, (b.ok t (sub t ht)).qa, (b.ok t (sub t ht)).qb⟩
    rw [L.root x]
    exact ⟨this.1.mono (by omega), this.2.mono (by omega)⟩
  · rw [(L.un x hs).2]
    exact ⟨q1.mono (by decide), q0.mono (by decide)⟩
end
noncomputable def wW (ts : List Tel) (t : Tel) : PV := .tup [.str t.name, .str (word ts t)]
theorem wW_eq {ts : List Tel} {P : Str → Mv} (R : Rows ts (zad ts) P) : (zaj ts).map (wpv ts P) = (zaj ts).map (wW ts) := List.map_congr_left fun t ht => by
  unfold wpv wW
  rw [word_eq R ((zar ts).mem_iff.mp ht)]
end Sb
namespace Sb
open PySem
theorem same_list {h : PH} {m n d : Nat} {l : List PV} (e1 : h[m]? = some (.lst l)) (e2 : h[n]? = some (.lst l)) (hl : l.length ≤ 1000000) (hs : ∀ x ∈ l, sameP h d x x) : sameP h (d + 1) (.ref m) (.ref n) := by
  unfold sameP
  refine ⟨l, l, e1, e2, rfl, hl, fun i x y hx hy => ?_⟩
  rw [hx] at hy
  cases hy
  exact hs x (List.mem_of_getElem? hx)
theorem same_tup {h : PH} {d : Nat} {l : List PV} (hl : l.length ≤ 1000000) (hs : ∀ x ∈ l, sameP h d x x) : sameP h (d + 1) (.tup l) (.tup l) := by
  unfold sameP
  refine ⟨rfl, hl, fun i x y hx hy => ?_⟩
  rw [hx] at hy
  cases hy
  exact hs x (List.mem_of_getElem? hx)
theorem same_str {h : PH} {d : Nat} (x : Str) : sameP h d (.str x) (.str x) := by unfold sameP; trivial
theorem same_wW {h : PH} {d : Nat} (ts : List Tel) (t : Tel) : sameP h (d + 1) (wW ts t) (wW ts t) := same_tup (by simp) fun x hx => by
  simp at hx
  rcases hx with rfl | rfl <;> exact same_str _
theorem same_words {h : PH} {m n : Nat} {ts l : List Tel} (e1 : h[m]? = some (.lst (l.map (wW ts)))) (e2 : h[n]? = some (.lst (l.map (wW ts)))) (hl : l.length ≤ 1000) : sameP h 2 (.ref m) (.ref n) := same_list e1 e2 (by rw [List.length_map]; omega) fun x hx => by
  obtain ⟨t, _, rfl⟩ := List.mem_map.mp hx
  exact same_wW ts t
theorem Rows.size {ns : List Str} {ts : List Tel} {P : Str → Mv} (R : Rows ts (zad ts) P) (b : Bk ns ts) {s x : Str} (hs : s ∈ ns) (j : Joined (zad ts) s x) : Qs 1648 (rel P s x).1 ∧ Qs 4969 (rel P s x).2 := by
  obtain ⟨vs, c, w⟩ := j.path
  have l := w.short hs (b.ends fun t => zan)
  have := w.size R.p0 R.ag fun t ht => R.qa t (R.sub t ht)
  have nl := b.nl
  exact ⟨this.1.mono (by omega), this.2.mono (by omega)⟩
section
variable {tbl : Nat → Fn} {k : Nat} {h : PH}
theorem named_eq (h51 : tbl 51 = F_named) {v : PV} {ts : List Tel} (e : zbw h v = some (ts.map Tel.pv)) (nd : (ts.map Tel.name).Nodup) {t : Tel} (m : t ∈ ts) : call tbl (k + 1) 51 [v, .str t.name] h = .ok t.pv h := by
  refine R.Sat.eq ?_
  rw [zam, h51]
  refine zay rfl ?_
  simp only [F_named, zas, List.map, List.length, List.replicate, List.cons_append, List.nil_append]
  rw [zai]
  obtain ⟨kp, wkp, skp⟩ := walk_seqV e
  obtain ⟨i0, hi0⟩ := mem_get m
  have i0l := (List.getElem?_eq_some_iff.mp hi0).1
  refine x_forE (l := [v]) (h1 := h) (by simp) wkp (fun i ρ g => g = h ∧ i ≤ i0 ∧ ∃ o, ρ = [some v, some (.str t.name), o]) ⟨rfl, by omega, none, rfl⟩ ?_ ?_
  · rintro i y ρ g hy ⟨rfl, il, o, rfl⟩
    rw [List.getElem?_map] at hy
    obtain ⟨u, hu, rfl⟩ := Option.map_eq_some_iff.mp hy
    refine ⟨skp _ e, _, rfl, ?_⟩
    simp [pv0]
    by_cases hn : u.name = t.name
    · have := tel_uniq nd m (List.mem_of_getElem? hu) hn
      simp [hn, this]
    · have : i ≠ i0 := fun z => hn (by rw [z, hi0] at hu; cases hu; rfl)
      simp [hn]
      omega
  · rintro ρ g ⟨_, hl, _⟩
    rw [List.length_map] at hl
    omega
end
end Sb
namespace Sb
open PySem
theorem sort_eq {S ts : List Tel} (nd : (ts.map Tel.name).Nodup) (o : S.Pairwise fun a b => leT a b = true) (p : S.Perm ts) : zaj ts = S := by
  rw [← sort_same nd p]
  exact List.mergeSort_of_pairwise o
theorem sort_filter {ts : List Tel} (nd : (ts.map Tel.name).Nodup) (p : Tel → Bool) : zaj (ts.filter p) = (zaj ts).filter p :=
  sort_eq ((List.filter_sublist.map Tel.name).nodup nd) ((sort_pair ts).filter p) ((zar ts).filter p)
theorem nd_filter {ts : List Tel} (nd : (ts.map Tel.name).Nodup) (p : Tel → Bool) : ((ts.filter p).map Tel.name).Nodup := (List.filter_sublist.map Tel.name).nodup nd
theorem nd_self {ts : List Tel} (nd : (ts.map Tel.name).Nodup) : ts.Nodup := (List.pairwise_map.mp nd).imp fun h z => h (congrArg _ z)
theorem len_filter {α : Type} (p : α → Bool) : ∀ l : List α, l.length = (l.filter p).length + (l.filter fun t => !p t).length
  | [] => rfl
  | a :: l => by
    have := len_filter p l
    cases h : p a <;> simp [List.filter, h] <;> omega
/-- all but one -/
def zag (ts : List Tel) (u : Tel) : List Tel := ts.filter fun t => !decide (t = u)
theorem mem_without {ts : List Tel} {u t : Tel} : t ∈ zag ts u ↔ t ∈ ts ∧ t ≠ u := by
  unfold zag
  rw [List.mem_filter]
  simp
theorem without_nd {ts : List Tel} (nd : (ts.map Tel.name).Nodup) (u : Tel) : ((zag ts u).map Tel.name).Nodup := nd_filter nd _
theorem joined_without {ts : List Tel} {u t : Tel} (hu : ¬ zbt ts u) {x y : Str} : Joined (ahead (zag ts u) t) x y ↔ Joined (ahead ts t) x y := by
  constructor
  · intro j
    exact j.mono fun v hv => mem_ahead.mpr ⟨(mem_without.mp (mem_ahead.mp hv).1).1, (mem_ahead.mp hv).2⟩
  · intro j
    refine j.into fun v hv => ?_
    obtain ⟨h1, h2⟩ := mem_ahead.mp hv
    by_cases e : v = u
    · subst e
      have ju : Joined (ahead ts v) v.st v.en := Classical.byContradiction hu
      refine ju.mono fun w hw => ?_
      obtain ⟨w1, w2⟩ := mem_ahead.mp hw
      refine mem_ahead.mpr ⟨mem_without.mpr ⟨w1, fun z => ?_⟩, lt_trans' w2 h2⟩
      rw [z, ltT_irr] at w2
      cases w2
    · exact .of (mem_ahead.mpr ⟨mem_without.mpr ⟨h1, e⟩, h2⟩)
theorem isTie_without {ts : List Tel} {u t : Tel} (hu : ¬ zbt ts u) : zbt (zag ts u) t ↔ zbt ts t := not_congr (joined_without hu)
theorem ties_without {ts : List Tel} (nd : (ts.map Tel.name).Nodup) {u : Tel} (hu : ¬ zbt ts u) : zad (zag ts u) = zad ts := by
  rw [zcd (without_nd nd u), zcd nd, show zag ts u = ts.filter (fun t => !decide (t = u)) from rfl, sort_filter nd, List.filter_filter]
  refine List.filter_congr fun t _ => ?_
  by_cases e : t = u
  · subst e
    simp [hu]
  · have : zbt (ts.filter fun t => !decide (t = u)) t ↔ zbt ts t := isTie_without hu
    simp [e, this]
theorem word_without {ts : List Tel} (nd : (ts.map Tel.name).Nodup) {u t : Tel} (hu : ¬ zbt ts u) : word (zag ts u) t = word ts t := by
  unfold word
  rw [ties_without nd hu]
  by_cases h : zbt ts t
  · rw [if_pos h, if_pos ((isTie_without hu).mpr h)]
  · rw [if_neg h, if_neg fun z => h ((isTie_without hu).mp z)]
theorem sort_without {ts : List Tel} (nd : (ts.map Tel.name).Nodup) (u : Tel) : zaj (zag ts u) = (zaj ts).filter fun t => !decide (t = u) := sort_filter nd _
theorem tie_stays {ts : List Tel} {u t : Tel} (h : zbt ts t) : zbt (zag ts u) t := fun j => h (j.mono fun v hv => mem_ahead.mpr ⟨(mem_without.mp (mem_ahead.mp hv).1).1, (mem_ahead.mp hv).2⟩)
theorem ahead_add {ts : List Tel} {u t : Tel} {x y : Str} (j : Joined (ahead ts t) x y) : Joined (ahead (zag ts u) t ++ [u]) x y := j.mono fun v hv => by
  obtain ⟨h1, h2⟩ := mem_ahead.mp hv
  by_cases e : v = u
  · rw [e]
    simp
  · exact List.mem_append_left _ (mem_ahead.mpr ⟨mem_without.mpr ⟨h1, e⟩, h2⟩)
/-- two that come in the place of one: there is but one -/
theorem one_heir {ts : List Tel} {u x y : Tel} (hx : x ∈ zag ts u) (hxy : ltT x y = true) (x1 : ¬ zbt ts x) (x2 : zbt (zag ts u) x) (y1 : ¬ zbt ts y) : ¬ zbt (zag ts u) y := by
  have jx : Joined (ahead ts x) x.st x.en := Classical.byContradiction x1
  have jy : Joined (ahead ts y) y.st y.en := Classical.byContradiction y1
  have up : ∀ {a b}, Joined (ahead (zag ts u) x) a b → Joined (ahead (zag ts u) y) a b := fun j => j.mono fun v hv => mem_ahead.mpr ⟨(mem_ahead.mp hv).1, lt_trans' (mem_ahead.mp hv).2 hxy⟩
  have xin : Joined (ahead (zag ts u) y) x.st x.en := .of (mem_ahead.mpr ⟨hx, hxy⟩)
  have ju : Joined (ahead (zag ts u) y) u.st u.en := by
    rcases joined_snoc (ahead_add (u := u) jx) with a | ⟨a, b⟩ | ⟨a, b⟩
    · exact absurd a x2
    · exact ((up a).symm.trans xin).trans (up b).symm
    · exact ((up b).trans xin.symm).trans (up a)
  intro ty
  apply ty
  exact (joined_skip ju).mp (ahead_add jy)
structure Sh (f : Tel → Tel) : Prop where
  name : ∀ t, (f t).name = t.name
  st : ∀ t, (f t).st = t.st
  en : ∀ t, (f t).en = t.en
  tr : ∀ t, (f t).tr = t.tr
section
variable {f : Tel → Tel} {ts : List Tel}
theorem Sh.le (s : Sh f) (a b : Tel) : leT (f a) (f b) = leT a b := by unfold leT Tel.key; rw [s.name, s.name, s.tr, s.tr]
theorem Sh.lt (s : Sh f) (a b : Tel) : ltT (f a) (f b) = ltT a b := by unfold ltT; rw [s.le]
theorem Sh.names (s : Sh f) : (ts.map f).map Tel.name = ts.map Tel.name := by rw [List.map_map]; exact List.map_congr_left fun t _ => s.name t
theorem Sh.joined (s : Sh f) {x y : Str} : Joined (ts.map f) x y ↔ Joined ts x y := by
  constructor
  · intro j
    refine Joined.into (ts := ts.map f) (fun u hu => ?_) j
    obtain ⟨t, ht, rfl⟩ := List.mem_map.mp hu
    rw [s.st, s.en]
    exact .of ht
  · intro j
    refine j.into fun t ht => ?_
    have := Joined.of (ts := ts.map f) (List.mem_map.mpr ⟨t, ht, rfl⟩)
    rwa [s.st, s.en] at this
end
end Sb
namespace Sb
open PySem
theorem nin2 {n a b : Nat} (h1 : n ≠ a) (h2 : n ≠ b) : n ∉ [a, b] := by
  rw [List.mem_cons, List.mem_singleton]
  omega
theorem Bk.sub {ns : List Str} {ts us : List Tel} (b : Bk ns ts) (h : us.Sublist ts) : Bk ns us := ⟨(h.map Tel.name).nodup b.nd, fun t ht => b.ok t (h.mem ht), Nat.le_trans h.length_le b.len, b.nl⟩
end Sb
namespace Sb
open PySem
structure SOk (t : Tel) : Prop where
  name : zch t.name = true
  st : zch t.st = true
  en : zch t.en = true
theorem pd_pv8 {h : PH} {t : Tel} (s : SOk t) : pd h 8 t.pv = some t.dat := by simp [Tel.pv, Tel.dat, pd, mapO, mq, fq, s.name, s.st, s.en]
theorem eqv_pv (t u : Tel) : PyData.eqv t.dat u.dat = decide (t = u) := by
  rw [Bool.eq_iff_iff, decide_eq_true_iff]
  constructor
  · intro e
    simp [Tel.dat, PyData.eqv, PyData.eqvAll] at e
    obtain ⟨h1, h2, h3, ⟨h4, h5⟩, h6⟩ := e
    cases t with
    | mk n s e a b r =>
      cases u with
      | mk n' s' e' a' b' r' =>
        simp at h1 h2 h3 h4 h5 h6
        rw [h1, h2, h3, h6, Rat.ext h4.1 (by omega), Rat.ext h5.1 (by omega)]
  · rintro rfl
    exact eqv_dat t
theorem ne_pv {h : PH} {t u : Tel} (s1 : SOk t) (s2 : SOk u) : zbd .NotEq t.pv u.pv h = .ok (.bl (!decide (t = u))) h := by
  show ofO ((eqP h t.pv u.pv).map fun b => PV.bl (!b)) h = _
  simp only [eqP, pd_pv8 s1, pd_pv8 s2, eqv_pv]
  rfl
theorem pd_strs {h : PH} {d : Nat} {l : List Str} (ok : ∀ x ∈ l, zch x = true) : mapO (pd h d) (l.map PV.str) = some (l.map PyData.str) := by
  have := mapO_some (f := pd h d) (g := fun v => match v with | .str x => PyData.str x | _ => .none) (l := l.map PV.str) fun v hv => by
    obtain ⟨x, hx, rfl⟩ := List.mem_map.mp hv
    exact pd_str (ok x hx)
  rw [this, List.map_map]
  rfl
theorem eqv_strs : ∀ l k : List Str, PyData.eqvAll (l.map PyData.str) (k.map PyData.str) = decide (l = k)
  | [], [] => by simp [PyData.eqvAll]
  | [], _ :: _ => by simp [PyData.eqvAll]
  | _ :: _, [] => by simp [PyData.eqvAll]
  | a :: l, b :: k => by
    simp only [List.map_cons, PyData.eqvAll, eqv_strs l k, PyData.eqv]
    by_cases h1 : a = b <;> by_cases h2 : l = k <;> simp [h1, h2]
/-- a comprehension whose parts change nothing -/
theorem v_filt {α : Type} {C : Calls} {tg : List Nat} {one : TgK} {k : ITK} {its : List E} {cond : Option E} {own : List Nat} {a : E} {ρ : Env} {h h1 : PH} {Q : PV → PH → Prop} {l : List PV} {kp : Keep} (xs : List α) (f g : α → PV) (p : α → Bool) (e1 : evGs C its ρ h = .ok l h1) (e2 : zcm k l h1 = some (xs.map f, kp)) (hk : zbn kp h1) (hl : xs.length ≤ 1000000)
    (hs : ∀ x ∈ xs, ∃ ρ1, zbo (zbi ρ own) tg one (f x) = some ρ1 ∧ evGc C cond ρ1 h1 = .ok (p x) h1 ∧ (p x = true → evG C a false ρ1 h1 = .ok (g x) h1))
    (hd : Q (.ref h1.length) (h1 ++ [.lst ((xs.filter p).map g)])) : (evG C (.comp a tg one k its cond own) false ρ h).Sat Q := by
  refine v_compE e1 e2 (fun i acc h' => h' = h1 ∧ acc = ((xs.take i).filter p).map g) ⟨rfl, by simp⟩ ?_ ?_
  · rintro i y acc h' hy ⟨rfl, rfl⟩
    rw [List.getElem?_map] at hy
    obtain ⟨u, hu, rfl⟩ := Option.map_eq_some_iff.mp hy
    have hi := (List.getElem?_eq_some_iff.mp hu).1
    obtain ⟨ρ1, h2, h3, h4⟩ := hs u (List.mem_of_getElem? hu)
    refine ⟨hk, ρ1, h2, ?_⟩
    have fl : ((xs.take i).filter p).length ≤ i := Nat.le_trans (List.length_filter_le ..) (by rw [List.length_take]; omega)
    rw [h3, sat_ok]
    cases hp : p u with
    | false =>
      rw [if_neg Bool.false_ne_true, List.take_add_one, hu]
      simp [List.filter_append, List.filter, hp]
    | true =>
      rw [if_pos rfl, h4 hp, sat_ok]
      refine ⟨zaq (by rw [List.length_map]; omega), rfl, ?_⟩
      rw [List.take_add_one, hu]
      simp [List.filter_append, List.filter, hp]
  · rintro acc h' ⟨rfl, rfl⟩
    have fl : ((xs.take xs.length).filter p).length ≤ xs.length := Nat.le_trans (List.length_filter_le ..) (by rw [List.length_take]; omega)
    simp only [List.length_map, List.take_length] at fl ⊢
    exact ⟨hk, zaq (by omega), hd⟩
@[simp] theorem fin_tb (b : Bool) (h : PH) : fin true (.ok (.bl b) h) = .ok (.bl b) h := rfl
@[simp] theorem asB_b (b : Bool) (h : PH) : asB (.ok (.bl b) h) = .ok b h := rfl
section
variable {tbl : Nat → Fn} {k : Nat} {h : PH}
theorem ties_of_sat (h32 : tbl 32 = F_in_order) (h39 : tbl 39 = F_tie_rows) (h56 : tbl 56 = F_ties_of) {v : PV} {ts : List Tel} (e : zbw h v = some (ts.map Tel.pv)) (nd : (ts.map Tel.name).Nodup) (hl : ts.length ≤ 1000) {Q : PV → PH → Prop}
    (q : ∀ n h', h'[n]? = some (.lst (((zad ts).map Tel.name).map PV.str)) → h.length ≤ n → Fr [] h h' → Q (.ref n) h') : (call tbl (k + 3) 56 [v] h).Sat Q := by
  rw [zam, h56]
  refine zay rfl ?_
  simp only [F_ties_of, zas, List.map, List.length, List.replicate, List.cons_append, List.nil_append]
  rw [x_one, x_ret]
  have tl := zcn ts
  refine v_comp ?_
  simp
  refine zcx h32 h39 (k := k) e nd hl fun n h1 e1 nl f1 => ?_
  refine ⟨_, _, zbf e1, fun i acc g => g = h1 ∧ acc = (((zad ts).take i).map Tel.name).map PV.str, ⟨rfl, by simp⟩, ?_, ?_⟩
  · rintro i y acc g hy ⟨rfl, rfl⟩
    rw [List.getElem?_map] at hy
    obtain ⟨u, hu, rfl⟩ := Option.map_eq_some_iff.mp hy
    have hi := (List.getElem?_eq_some_iff.mp hu).1
    refine ⟨zav e1, _, rfl, ?_⟩
    simp [zbi, pv0]
    refine ⟨zaq (by omega), ?_⟩
    rw [List.take_add_one, List.getElem?_map, hu]
    simp
  · rintro acc g ⟨rfl, rfl⟩
    simp only [List.length_map, List.take_length]
    refine ⟨zav e1, zaq (by omega), ?_⟩
    have ll := f1.len
    exact q _ _ (by simp) ll f1.appNew
end
end Sb
namespace Sb
open PySem
section
variable {C : Calls} {ρ ρ1 : Env} {h h1 : PH} {N : Env → PH → Prop} {T : PV → PH → Prop} {b s : List S} {c : Str} {xs : List Str} {x : Exn}
theorem x_tryN_ok (hb : (exSs C b ρ h).Sat N T) : (exS C (.tryN b c xs s) ρ h).Sat N T := by
  show RS.Sat (match exSs C b ρ h with
    | .ex x ρ1 h1 => if x.cls ∈ xs then (if x.cls = c then exSs C s ρ1 h1 else .ex x ρ1 h1) else .no
    | r => r) N T
  generalize exSs C b ρ h = m at hb
  cases m with
  | nx _ _ => exact hb
  | rt _ _ => exact hb
  | bk _ _ => exact hb
  | ct _ _ => exact hb
  | ex _ _ _ => exact hb.elim
  | no => exact hb
theorem x_tryN_ex (e : exSs C b ρ h = .ex x ρ1 h1) (hm : x.cls ∈ xs) (hc : x.cls = c) (q : (exSs C s ρ1 h1).Sat N T) : (exS C (.tryN b c xs s) ρ h).Sat N T := by
  show RS.Sat (match exSs C b ρ h with
    | .ex x ρ1 h1 => if x.cls ∈ xs then (if x.cls = c then exSs C s ρ1 h1 else .ex x ρ1 h1) else .no
    | r => r) N T
  rw [e]
  simp only
  rw [if_pos hm, if_pos hc]
  exact q
end
/-- the refusal of a road -/
def xNotJoined (s x : Str) : Exn := ⟨"NotJoined", ["end", "start"], [.str x, .str s]⟩
section
variable {tbl : Nat → Fn} {k : Nat} {h : PH}
theorem road_of_exR (f : TR tbl) {v : PV} {ts : List Tel} {ns : List Str} (b : Bk ns ts) (e : zbw h v = some (ts.map Tel.pv)) {s x : Str} (hs : s ∈ ns) (j : ¬ Joined (zad ts) s x) : ∃ h', Fr [] h h' ∧ call tbl (k + 4) 43 [v, .str s, .str x] h = .ex (xNotJoined s x) h' := by
  have a1 := zcx f.h32 f.h39 (k := k + 1) (h := h) (v := v) e b.nd b.len (Q := fun v h' => ∃ n, v = .ref n ∧ h'[n]? = some (.lst ((zad ts).map Tel.pv)) ∧ Fr [] h h') fun n h' e1 _ f1 => ⟨n, rfl, e1, f1⟩
  obtain ⟨_, h1, e1, n, rfl, n1, f1⟩ := a1.ex
  have tl := zcn ts
  have bl := b.len
  have a2 := road_sat f.h40 f.h41 f.h42 (k := k) n1 (by omega) hs (b.ends fun t => zan) (x := x) (Q := fun v h' => v = .non ∧ Fr [] h1 h') (fun z => absurd z j) fun _ h' f2 => ⟨rfl, f2⟩
  obtain ⟨_, h2, e2, rfl, f2⟩ := a2.ex
  refine ⟨h2, f1.trans f2, ?_⟩
  rw [zam, f.h43]
  simp only [runFn, F_road_of, zas, List.length, List.map, List.replicate, List.cons_append, List.nil_append]
  rw [if_pos trivial]
  simp [exSs, exS, evT, asB, e1, e2, stTg, isNonP, fin, truthy, RS.toR]
  rfl
end
end Sb
namespace Sb
open PySem
theorem Path.used {rows : List Tel} {s x : Str} {vs : List Str} {c : List Step} (nd : (rows.map Tel.name).Nodup) (w : Path rows s vs c x) : (c.map (·.1)).Nodup ∧ (∀ t ∈ rows, t.name ∈ c.map (·.1) → t.st ∈ vs ∧ t.en ∈ vs) ∧ ∀ m ∈ c.map (·.1), m ∈ rows.map Tel.name := by
  induction w with
  | nil => simp
  | @snoc vs c y p w m n ih =>
    obtain ⟨i1, i2, i3⟩ := ih
    have key : ∃ t ∈ rows, p.1.1 = t.name ∧ ((t.st = y ∧ t.en = p.2) ∨ (t.en = y ∧ t.st = p.2)) := by
      obtain ⟨t, ht, ⟨rfl, hx⟩ | ⟨rfl, hx⟩⟩ := zb0 m
      · exact ⟨t, ht, rfl, .inl ⟨hx, rfl⟩⟩
      · exact ⟨t, ht, rfl, .inr ⟨hx, rfl⟩⟩
    obtain ⟨t, ht, en, he⟩ := key
    have yv := w.vmem.1
    refine ⟨?_, fun u hu hm => ?_, fun z hz => ?_⟩
    · rw [List.map_append, List.nodup_append]
      refine ⟨i1, by simp, fun a ha b hb e => ?_⟩
      simp at hb
      rw [e, hb, en] at ha
      obtain ⟨h1, h2⟩ := i2 t ht ha
      rcases he with ⟨_, h⟩ | ⟨_, h⟩
      · exact n (by rw [← h]; exact h2)
      · exact n (by rw [← h]; exact h1)
    · rw [List.map_append] at hm
      rcases List.mem_append.mp hm with z | z
      · exact ⟨List.mem_append_left _ (i2 u hu z).1, List.mem_append_left _ (i2 u hu z).2⟩
      · simp at z
        have eu := tel_uniq nd ht hu (z.trans en)
        subst eu
        rcases he with ⟨h1, h2⟩ | ⟨h1, h2⟩
        · exact ⟨by rw [h1]; exact List.mem_append_left _ yv, by rw [h2]; simp⟩
        · exact ⟨by rw [h2]; simp, by rw [h1]; exact List.mem_append_left _ yv⟩
    · rw [List.map_append] at hz
      rcases List.mem_append.mp hz with q | q
      · exact i3 z q
      · simp at q
        rw [q, en]
        exact List.mem_map.mpr ⟨t, ht, rfl⟩
theorem Path.few {rows : List Tel} {s x : Str} {vs : List Str} {c : List Step} (nd : (rows.map Tel.name).Nodup) (w : Path rows s vs c x) : c.length ≤ rows.length := by
  have u := w.used nd
  have := nodup_len u.1 u.2.2
  simpa using this
end Sb
namespace Sb
open PySem
structure Kw (h : PH) (B : Nat) (L : List (Nat × PO)) : Prop where
  st : St h 2 0 1 B
  at_ : ∀ p ∈ L, h[p.1]? = some p.2
  nd : (L.map (·.1)).Nodup
  hi : ∀ p ∈ L, 3 ≤ p.1
section
variable {h h' : PH} {B B' n : Nat} {o o' : PO} {L : List (Nat × PO)}
theorem Kw.get (K : Kw h B L) (i : Nat) (e : L[i]? = some (n, o) := by rfl) : h[n]? = some o := K.at_ (n, o) (List.mem_of_getElem? e)
theorem Kw.ge (K : Kw h B L) (i : Nat) (e : L[i]? = some (n, o) := by rfl) : 3 ≤ n := K.hi (n, o) (List.mem_of_getElem? e)
theorem Kw.mem_lt (K : Kw h B L) {p : Nat × PO} (m : p ∈ L) : p.1 < h.length := (List.getElem?_eq_some_iff.mp (K.at_ p m)).1
theorem Kw.frS (K : Kw h B L) (f : Fr [2, 0] h h') (st : St h' 2 0 1 B') : Kw h' B' L := ⟨st, fun p hp => f.some (by have := K.hi p hp; exact nin2 (by omega) (by omega)) (K.at_ p hp), K.nd, K.hi⟩
theorem Kw.fr (K : Kw h B L) (f : Fr [] h h') : Kw h' B L := K.frS (f.mono (by simp)) (K.st.frame f (by simp) (by simp) (by simp))
theorem Kw.len (K : Kw h B L) : 3 ≤ h.length := by
  have := K.st.lt
  omega
theorem Kw.fresh (K : Kw h B L) (hl : h.length ≤ n) : n ∉ L.map (·.1) := fun m => by
  obtain ⟨p, hp, rfl⟩ := List.mem_map.mp m
  have := K.mem_lt hp
  omega
theorem Kw.add (K : Kw h B L) (hn : n ∉ L.map (·.1)) (h3 : 3 ≤ n) (e : h[n]? = some o) : Kw h B ((n, o) :: L) := ⟨K.st, fun p hp => by
  rcases List.mem_cons.mp hp with rfl | hp
  · exact e
  · exact K.at_ p hp, by rw [List.map_cons]; exact List.nodup_cons.mpr ⟨hn, K.nd⟩, fun p hp => by
  rcases List.mem_cons.mp hp with rfl | hp
  · exact h3
  · exact K.hi p hp⟩
theorem Kw.newS (K : Kw h B L) (f : Fr [2, 0] h h') (st : St h' 2 0 1 B') (hl : h.length ≤ n) (e : h'[n]? = some o) : Kw h' B' ((n, o) :: L) := (K.frS f st).add (K.fresh hl) (by have := K.len; omega) e
theorem Kw.new (K : Kw h B L) (f : Fr [] h h') (hl : h.length ≤ n) (e : h'[n]? = some o) : Kw h' B ((n, o) :: L) := (K.fr f).add (K.fresh hl) (by have := K.len; omega) e
theorem Kw.push (K : Kw h B L) (o : PO) : Kw (h ++ [o]) B ((h.length, o) :: L) := K.new Fr.app (Nat.le_refl _) (by simp)
theorem Kw.app (K : Kw h B L) (t : PH) : Kw (h ++ t) B L := K.fr Fr.app
theorem Kw.up (K : Kw h B L) (hb : B ≤ B') : Kw h B' L := ⟨K.st.up hb, K.at_, K.nd, K.hi⟩
theorem Kw.sub {L' : List (Nat × PO)} (K : Kw h B L) (s : L'.Sublist L) : Kw h B L' := ⟨K.st, fun p hp => K.at_ p (s.subset hp), (s.map _).nodup K.nd, fun p hp => K.hi p (s.subset hp)⟩
theorem Kw.tl {p : Nat × PO} (K : Kw h B (p :: L)) : Kw h B L := K.sub (List.sublist_cons_self _ _)
theorem Kw.set0 (K : Kw h B ((n, o) :: L)) (o' : PO) : Kw (h.set n o') B ((n, o') :: L) := by
  have g3 := K.hi (n, o) (by simp)
  refine ⟨K.st.setNew (by simp at g3; omega) (by simp at g3; omega) (by simp at g3; omega), fun p hp => ?_, K.nd, fun p hp => ?_⟩
  · rcases List.mem_cons.mp hp with rfl | hp
    · exact set_at (K.at_ (n, o) (by simp))
    · have := (List.nodup_cons.mp K.nd).1
      rw [za6 (fun z => this (List.mem_map.mpr ⟨p, hp, z.symm⟩))]
      exact K.at_ p (List.mem_cons_of_mem _ hp)
  · rcases List.mem_cons.mp hp with rfl | hp
    · exact g3
    · exact K.hi p (List.mem_cons_of_mem _ hp)
theorem Kw.perm {L' : List (Nat × PO)} (K : Kw h B L) (s : L.Perm L') : Kw h B L' := ⟨K.st, fun p hp => K.at_ p (s.mem_iff.mpr hp), (s.map _).nodup_iff.mp K.nd, fun p hp => K.hi p (s.mem_iff.mpr hp)⟩
theorem Kw.set {i : Nat} (K : Kw h B L) (e : L[i]? = some (n, o)) (o' : PO) : Kw (h.set n o') B (L.set i (n, o')) := by
  obtain ⟨hi, e1⟩ := List.getElem?_eq_some_iff.mp e
  have p1 : L.Perm ((n, o) :: L.eraseIdx i) := (perm_erase e).symm
  have K1 := (K.perm p1).set0 o'
  refine K1.perm ?_
  have : (L.set i (n, o'))[i]? = some (n, o') := by simp [hi]
  have p2 := perm_erase this
  rwa [List.eraseIdx_set_eq] at p2
end
section
variable {tbl : Nat → Fn} {h : PH} {k B : Nat} {L : List (Nat × PO)}
theorem kdraw (td : TD tbl) (K : Kw h B L) (hB : B + 8 ≤ 2 ^ 20) {m : Int} (m0 : 0 < m) (m1 : m ≤ 10 ^ 62) {Q : PV → PH → Prop} (q : ∀ r h', 0 ≤ r → r < m → Kw h' (B + 8) L → Fr [2, 0] h h' → h'.length = h.length → Q (.int r) h') : (call tbl (k + 2) 6 [.ref 2, .int m] h).Sat Q :=
  zbg td.h5 td.h6 K.st hB m0 m1 fun r h' r0 r1 st fr l => q r h' r0 r1 (K.frS fr st) fr l
theorem kstart (h4 : tbl 4 = F_law_start) {ns : List Int} (hn : ns.length ≤ 63) {Q : PV → PH → Prop} (q : ∀ h', Kw h' 0 [] → h'.length = 3 → Q (.ref 2) h') : (call tbl (k + 1) 4 [.cl (ns.map PV.int)] []).Sat Q :=
  start_sat h4 (k := k) (h := []) hn fun h' st _ hl => q h' ⟨st, by simp, by simp, by simp⟩ (by simpa using hl)
theorem knames (td : TD tbl) (K : Kw h B L) {many : Nat} {mi : Int} (hmi : mi = (many : Nat)) (hm : many ≤ 600) (hB : B + 120 * many ≤ 2 ^ 20) {Q : PV → PH → Prop} (q : ∀ n ns h', Kw h' (B + 120 * many) ((n, .lst (ns.map PV.str)) :: L) → ns.length = many → Nms ns → h.length ≤ n → Q (.ref n) h') : (call tbl (k + 3) 34 [.ref 2, .int mi] h).Sat Q :=
  names_sat td.h5 td.h6 td.h34 hmi K.st hm hB fun ns h' e1 l nn st fr => q _ ns h' (K.newS fr st (Nat.le_refl _) e1) l nn (Nat.le_refl _)
theorem ktellings (td : TD tbl) (tl : TL tbl) (K : Kw h B L) {many p i : Nat} {mi : Int} (hmi : mi = (many : Nat)) {ns : List Str} (hp : L[i]? = some (p, .lst (ns.map PV.str))) (hn0 : 0 < ns.length) (hn : ns.length ≤ 600) (hm : many ≤ 600) (hB : B + 24 + 80 * ns.length + 160 * many ≤ 2 ^ 20) {Q : PV → PH → Prop}
    (q : ∀ n (ts : List Tel) h', Kw h' (B + 24 + 80 * ns.length + 160 * many) ((n, .lst (ts.map Tel.pv)) :: L) → ts.length = many → Nms (ts.map Tel.name) → (∀ t ∈ ts, TelOk ns t) → h.length ≤ n → Q (.ref n) h') : (call tbl (k + 5) 36 [.ref 2, .ref p, .int mi] h).Sat Q :=
  tellings_sat td tl hmi K.st (K.get i hp) (by have := K.ge i hp; omega) (by have := K.ge i hp; omega) hn0 hn hm hB fun n ts h' e1 ln lt tn tok st fr => q n ts h' (K.newS fr st ln e1) lt tn tok ln
/-- a thing of a list by a draw -/
theorem kpick (td : TD tbl) (K : Kw h B L) {α : Type} {f : α → PV} {l : List α} {n i : Nat} (e : L[i]? = some (n, .lst (l.map f))) (hB : B + 8 ≤ 2 ^ 20) {m : Int} (hm : m = (l.length : Nat)) (m0 : 0 < l.length) (m1 : l.length ≤ 1000000) {Q : PV → PH → Prop} (q : ∀ (j : Nat) x h', l[j]? = some x → Kw h' (B + 8) L → Q (f x) h') : ((call tbl (k + 2) 6 [.ref 2, .int m] h).Sat fun r h' => (zcc (.ref n) r h').Sat Q) := by
  refine kdraw td K hB (by omega) (by omega) fun r h' r0 r1 K' _ _ => ?_
  obtain ⟨x, hx⟩ : ∃ x, l[r.toNat]? = some x := ⟨_, List.getElem?_eq_getElem (by omega)⟩
  rw [idx_ref (K'.get i e) (at_pos r0 (by rw [List.getElem?_map, hx]; rfl))]
  exact q r.toNat x h' hx K'
end
end Sb
namespace Sb
open PySem
theorem notin_strs {h : PH} {n : Nat} {x : Str} {ns : List Str} (e : h[n]? = some (.lst (ns.map PV.str))) (hx : zch x = true) (hn : ∀ y ∈ ns, zch y = true) : zbd .NotIn (.str x) (.ref n) h = .ok (.bl (!decide (x ∈ ns))) h := by
  have z := in_strs e hx hn
  have z1 : ofO ((inP h (.str x) (.ref n)).map PV.bl) h = .ok (.bl (decide (x ∈ ns))) h := z
  show ofO ((inP h (.str x) (.ref n)).map fun b => PV.bl (!b)) h = _
  cases hp : inP h (.str x) (.ref n) with
  | none => rw [hp] at z1; cases z1
  | some b =>
    rw [hp] at z1
    have : b = decide (x ∈ ns) := by
      have := (R.ok.inj z1).1
      exact PV.bl.inj this
    rw [this]
    rfl
/-- what is found so far -/
structure RF (rows : List Tel) (s : Str) (h : PH) (d : Nat) (g : PH) (fs : List Str) : Prop where
  e : g[d]? = some (.lst (fs.map PV.str))
  nd : fs.Nodup
  s0 : s ∈ fs
  jn : ∀ x ∈ fs, Joined rows s x
  am : ∀ x ∈ fs, x = s ∨ x ∈ ends rows
  fr : Fr [] h g
section
variable {rows : List Tel} {s : Str} {h g : PH} {d : Nat} {fs : List Str}
theorem RF.len (Z : RF rows s h d g fs) : fs.length ≤ 2 * rows.length + 1 := by
  have := nodup_len Z.nd (B := s :: ends rows) fun x hx => by
    rcases Z.am x hx with rfl | z
    · simp
    · exact List.mem_cons_of_mem _ z
  rw [List.length_cons, ends_len] at this
  omega
theorem mem_ends {t : Tel} (m : t ∈ rows) : t.st ∈ ends rows ∧ t.en ∈ ends rows := by
  unfold ends
  constructor
  · exact List.mem_flatMap.mpr ⟨t, m, by simp⟩
  · exact List.mem_flatMap.mpr ⟨t, m, by simp⟩
theorem RF.add (Z : RF rows s h d g fs) (dl : h.length ≤ d) {y : Str} (hy : y ∉ fs) (j : Joined rows s y) (ye : y ∈ ends rows) : RF rows s h d (g.set d (.lst (fs.map PV.str ++ [.str y]))) (fs ++ [y]) :=
  ⟨by rw [set_at Z.e]; simp, List.nodup_append.mpr ⟨Z.nd, by simp, fun a ha b hb => by rw [List.mem_singleton.mp hb]; rintro rfl; exact hy ha⟩, List.mem_append_left _ Z.s0, fun x hx => by
    rcases List.mem_append.mp hx with q | q
    · exact Z.jn x q
    · rw [List.mem_singleton.mp q]; exact j, fun x hx => by
    rcases List.mem_append.mp hx with q | q
    · exact Z.am x q
    · rw [List.mem_singleton.mp q]; exact .inr ye, Z.fr.setNew dl⟩
theorem RF.done (Z : RF rows s h d g fs) (nd : (rows.map Tel.name).Nodup) (cp : ∀ y vs c, Path rows s vs c y → c.length ≤ rows.length → y ∈ fs) (x : Str) : x ∈ fs ↔ Joined rows s x :=
  ⟨Z.jn x, fun j => by
    obtain ⟨vs, c, w⟩ := j.path
    exact cp x vs c w (w.few nd)⟩
end
end Sb
namespace Sb
open PySem
theorem sortS_perm {xs ys : List Str} (p : xs.Perm ys) : sortS xs = sortS ys := by
  refine ((List.mergeSort_perm xs leStr).trans (p.trans (List.mergeSort_perm ys leStr).symm)).eq_of_pairwise (fun a b _ _ h1 h2 => leStr_anti h1 h2) ?_ ?_
  · exact List.pairwise_mergeSort leStr_trans leStr_total xs
  · exact List.pairwise_mergeSort leStr_trans leStr_total ys
theorem perm_of {α : Type} [DecidableEq α] {xs ys : List α} (n1 : xs.Nodup) (n2 : ys.Nodup) (h : ∀ x, x ∈ xs ↔ x ∈ ys) : xs.Perm ys := by
  rw [List.perm_iff_count]
  intro a
  by_cases m : a ∈ xs
  · rw [n1.count, n2.count, if_pos m, if_pos ((h a).mp m)]
  · rw [n1.count, n2.count, if_neg m, if_neg fun z => m ((h a).mpr z)]
theorem mem_sortS {xs : List Str} {x : Str} : x ∈ sortS xs ↔ x ∈ xs := (List.mergeSort_perm xs leStr).mem_iff
/-- the scales to which chains lead, sorted -/
noncomputable def side (ns : List Str) (rows : List Tel) (s : Str) : List Str := open Classical in sortS (ns.filter fun x => decide (Joined rows s x))
theorem side_eq {ns fs : List Str} {rows : List Tel} {s : Str} (nn : ns.Nodup) (nf : fs.Nodup) (h : ∀ x, x ∈ fs ↔ Joined rows s x) (sub : ∀ x ∈ fs, x ∈ ns) : sortS fs = side ns rows s := by
  classical
  unfold side
  refine sortS_perm (perm_of nf (List.filter_sublist.nodup nn) fun x => ?_)
  rw [List.mem_filter]
  simp only [decide_eq_true_eq]
  exact ⟨fun m => ⟨sub x m, (h x).mp m⟩, fun m => (h x).mpr m.2⟩
theorem mem_side {ns : List Str} {rows : List Tel} {s x : Str} : x ∈ side ns rows s ↔ x ∈ ns ∧ Joined rows s x := by
  classical
  unfold side
  rw [mem_sortS, List.mem_filter]
  simp
theorem Joined.among {rows : List Tel} {s x : Str} (j : Joined rows s x) : x = s ∨ x ∈ ends rows := by
  cases j with
  | refl => exact .inl rfl
  | step m j e => exact .inr (mem_ends m).2
  | back m j e => exact .inr (mem_ends m).1
section
variable {us : List Tel} {t u : Tel}
theorem nd_ties (nd : (us.map Tel.name).Nodup) : ((zad us).map Tel.name).Nodup := by
  rw [zcd nd]
  exact (List.filter_sublist.map Tel.name).nodup (sort_nd nd)
theorem tie_ne (nd : (us.map Tel.name).Nodup) (ht : t ∈ zad us) : t.st ≠ t.en := fun e => ((zcl nd).mp ht).2 (by rw [e]; exact .refl _)
theorem tie_cut (nd : (us.map Tel.name).Nodup) (ht : t ∈ zad us) : ¬ Joined (zag (zad us) t) t.st t.en := fun j => by
  obtain ⟨vs, c, w⟩ := j.path
  have w1 : PathE (zad us) t.st c t.en := ⟨vs, by
    clear j
    generalize t.en = y at w
    induction w with
    | nil => exact .nil
    | @snoc vs c x p w m n ih =>
      refine .snoc ih ?_ n
      obtain ⟨u, hu, ⟨rfl, rfl⟩ | ⟨rfl, rfl⟩⟩ := zb0 m
      · exact steps_forth (mem_without.mp hu).1
      · exact steps_back (mem_without.mp hu).1⟩
  have w2 : PathE (zad us) t.st ([] ++ [((t.name, true), t.en).1]) ((t.name, true), t.en).2 := ⟨_, .snoc .nil (steps_forth ht) (by simpa using (tie_ne nd ht).symm)⟩
  have e := road_uniq nd w1 w2
  have nw : ((zag (zad us) t).map Tel.name).Nodup := without_nd (nd_ties nd) t
  have := (w.used nw).2.2 t.name (by rw [e]; simp)
  obtain ⟨v, hv, en⟩ := List.mem_map.mp this
  obtain ⟨v1, v2⟩ := mem_without.mp hv
  exact v2 (tel_uniq (nd_ties nd) ht v1 en)
theorem joined_tie (ht : t ∈ zad us) {x y : Str} : Joined (zad us) x y ↔ Joined (zag (zad us) t) x y ∨ (Joined (zag (zad us) t) x t.st ∧ Joined (zag (zad us) t) t.en y) ∨ (Joined (zag (zad us) t) x t.en ∧ Joined (zag (zad us) t) t.st y) := by
  rw [← joined_snoc_iff]
  refine joined_congr fun v => ?_
  rw [List.mem_append, mem_without, List.mem_singleton]
  constructor
  · intro h
    by_cases e : v = t
    · exact .inr e
    · exact .inl ⟨h, e⟩
  · rintro (h | rfl)
    · exact h.1
    · exact ht
/-- near: what is joined with the start zag the tie -/
def Near (us : List Tel) (t : Tel) (x : Str) : Prop := Joined (zag (zad us) t) t.st x
/-- it leads from the one side to the other -/
def Cross (us : List Tel) (t u : Tel) : Prop := u ≠ t ∧ ¬ (Near us t u.st ↔ Near us t u.en)
/-- the heir -/
noncomputable def heirT (us : List Tel) (t : Tel) : Option Tel := open Classical in (zaj us).find? fun u => decide (Cross us t u)
theorem cross_joins (nd : (us.map Tel.name).Nodup) (ht : t ∈ zad us) (hu : u ∈ us) (c : Cross us t u) : (Near us t u.st ∧ Joined (zag (zad us) t) t.en u.en) ∨ (Near us t u.en ∧ Joined (zag (zad us) t) t.en u.st) := by
  classical
  have ju := zc4 nd hu
  rcases (joined_tie ht).mp ju with j | ⟨j1, j2⟩ | ⟨j1, j2⟩
  · exfalso
    exact c.2 ⟨fun h => h.trans j, fun h => h.trans j.symm⟩
  · exact .inl ⟨j1.symm, j2⟩
  · exact .inr ⟨j2, j1.symm⟩
theorem sub_without {x y : Str} (j : Joined (zag (zad us) t) x y) : Joined (zag us t) x y := j.mono fun v hv => by
  obtain ⟨a, b⟩ := mem_without.mp hv
  exact mem_without.mpr ⟨zan a, b⟩
/-- with a telling that leads from side to side the ends are joined still -/
theorem cross_joined (nd : (us.map Tel.name).Nodup) (ht : t ∈ zad us) (hu : u ∈ us) (c : Cross us t u) : Joined (zag us t) t.st t.en := by
  have um : u ∈ zag us t := mem_without.mpr ⟨hu, c.1⟩
  rcases cross_joins nd ht hu c with ⟨a, b⟩ | ⟨a, b⟩
  · exact (sub_without a).trans ((Joined.of um).trans (sub_without b.symm))
  · exact (sub_without a).trans ((Joined.of' um).trans (sub_without b.symm))
theorem no_cross (nd : (us.map Tel.name).Nodup) (ht : t ∈ zad us) (h : ∀ u ∈ us, ¬ Cross us t u) {s x : Str} (hs : s = t.st ∨ s = t.en) : Joined (zag us t) s x ↔ Joined (zag (zad us) t) s x := by
  classical
  refine ⟨fun j => ?_, sub_without⟩
  have key : ∀ u ∈ zag us t, Joined (zag (zad us) t) u.st u.en := fun u hu => by
    obtain ⟨um, un⟩ := mem_without.mp hu
    have nc := h u um
    have iff_ : Near us t u.st ↔ Near us t u.en := Classical.byContradiction fun z => nc ⟨un, z⟩
    rcases (joined_tie ht).mp (zc4 nd um) with j | ⟨j1, j2⟩ | ⟨j1, j2⟩
    · exact j
    · have a : Near us t u.st := j1.symm
      exact absurd ((iff_.mp a).trans j2.symm) (tie_cut nd ht)
    · have a : Near us t u.en := j2
      exact absurd ((iff_.mpr a).trans j1) (tie_cut nd ht)
  exact j.into key
theorem heir_none (nd : (us.map Tel.name).Nodup) (ht : t ∈ zad us) : heirT us t = none ↔ ¬ Joined (zag us t) t.st t.en := by
  classical
  unfold heirT
  rw [List.find?_eq_none]
  constructor
  · intro h j
    rw [no_cross nd ht (fun u hu c => h u ((zar us).mem_iff.mpr hu) (decide_eq_true c)) (.inl rfl)] at j
    exact tie_cut nd ht j
  · intro h u hu c
    exact h (cross_joined nd ht ((zar us).mem_iff.mp hu) (of_decide_eq_true c))
theorem heir_no_cross (h : heirT us t = none) : ∀ u ∈ us, ¬ Cross us t u := by
  classical
  unfold heirT at h
  rw [List.find?_eq_none] at h
  exact fun u hu c => h u ((zar us).mem_iff.mpr hu) (decide_eq_true c)
end
/-- the defs of ties and of what is reached -/
structure TN (tbl : Nat → Fn) : Prop where
  h32 : tbl 32 = F_in_order
  h39 : tbl 39 = F_tie_rows
  h40 : tbl 40 = F_steps_from
  h41 : tbl 41 = F_roads_among
theorem TR.tn {tbl : Nat → Fn} (f : TR tbl) : TN tbl := ⟨f.h32, f.h39, f.h40, f.h41⟩
def xNoTie (n : Str) : Exn := ⟨"NoTie", ["name"], [.str n]⟩
theorem pds_pv8 {h : PH} {ts : List Tel} (ok : ∀ t ∈ ts, SOk t) : mapO (pd h 8) (ts.map Tel.pv) = some (ts.map Tel.dat) := by
  induction ts with
  | nil => rfl
  | cons t r ih =>
    rw [List.map_cons]
    unfold mapO
    rw [pd_pv8 (ok t (by simp)), ih fun u hu => ok u (List.mem_cons_of_mem _ hu)]
    rfl
theorem notin_rows {h : PH} {n : Nat} {t : Tel} {ts : List Tel} (e : h[n]? = some (.lst (ts.map Tel.pv))) (ok : ∀ t ∈ ts, SOk t) (ot : SOk t) : zbd .NotIn t.pv (.ref n) h = .ok (.bl (!decide (t ∈ ts))) h := by
  show ofO ((inP h t.pv (.ref n)).map fun b => PV.bl (!b)) h = _
  have e2 : inP h t.pv (.ref n) = some (decide (t ∈ ts)) := by
    simp only [inP, e, inSeqP, pd_pv8 ot, pds_pv8 ok]
    congr 1
    rw [List.any_map, Bool.eq_iff_iff, List.any_eq_true, decide_eq_true_iff]
    constructor
    · rintro ⟨u, hu, z⟩
      rw [show ((fun z => z.eqv t.dat) ∘ Tel.dat) u = PyData.eqv u.dat t.dat from rfl, eqv_pv] at z
      rw [← of_decide_eq_true z]
      exact hu
    · intro m
      exact ⟨t, m, by rw [show ((fun z => z.eqv t.dat) ∘ Tel.dat) t = PyData.eqv t.dat t.dat from rfl, eqv_pv]; simp⟩
  rw [e2]
  rfl
section
variable {tbl : Nat → Fn} {h : PH} {k : Nat}
theorem sorted_dct {h : PH} {n : Nat} {l : List (L2.Key × PV)} {xs : List Str} (e : h[n]? = some (.dct l)) (e2 : l.map (fun kv => keyP kv.1) = xs.map PV.str) (hl : xs.length < 64) : biF .sorted1 [.ref n] h = .ok (.ref h.length) (h ++ [.lst ((sortS xs).map PV.str)]) := by
  show biSorted [.ref n] h = _
  unfold biSorted
  simp only [e, e2, strs_map]
  rw [if_pos hl]
theorem reach_among_sat (h40 : tbl 40 = F_steps_from) (h41 : tbl 41 = F_roads_among) (h89 : tbl 89 = F_reach_among) {r : Nat} {rows : List Tel} (e : h[r]? = some (.lst (rows.map Tel.pv))) (hl : rows.length ≤ 1000) {s : Str} {ns : List Str} (nn : ns.Nodup) (nl : ns.length < 64) (hs : s ∈ ns) (he : ∀ x ∈ ends rows, x ∈ ns) {Q : PV → PH → Prop}
    (q : ∀ n h', h'[n]? = some (.lst ((side ns rows s).map PV.str)) → h.length ≤ n → Fr [] h h' → Q (.ref n) h') : (call tbl (k + 3) 89 [.ref r, .str s] h).Sat Q := by
  rw [zam, h89]
  refine zay rfl ?_
  simp only [F_reach_among, zas, List.map, List.length, List.replicate, List.cons_append, List.nil_append]
  simp
  refine roads_sat h40 h41 (k := k) e hl s fun d l w h1 e1 ld rk jn f1 => ?_
  obtain ⟨xs, ex, mx⟩ : ∃ xs : List Str, l.map (fun kv => keyP kv.1) = xs.map PV.str ∧ l.map (·.1) = xs.map Sum.inr := by
    have key : ∀ l' : List (L2.Key × PV), (∀ kv ∈ l', ∃ x : Str, kv.1 = .inr x) → ∃ xs : List Str, l'.map (fun kv => keyP kv.1) = xs.map PV.str ∧ l'.map (·.1) = xs.map Sum.inr := by
      intro l'
      induction l' with
      | nil => exact fun _ => ⟨[], rfl, rfl⟩
      | cons kv r ih =>
        intro hk
        obtain ⟨x, hx⟩ := hk kv (by simp)
        obtain ⟨xs, e1, e2⟩ := ih fun kv hkv => hk kv (List.mem_cons_of_mem _ hkv)
        exact ⟨x :: xs, by rw [List.map_cons, List.map_cons, hx, e1]; rfl, by simp [hx, e2]⟩
    exact key l fun kv hk => by
      obtain ⟨x, m, ch, rfl, _⟩ := rk.ky kv hk
      exact ⟨x, rfl⟩
  have xn : xs.Nodup := by
    have := rk.nd
    rw [mx] at this
    exact (List.pairwise_map.mp this).imp fun z1 z2 => z1 (by rw [z2])
  have xm : ∀ x, x ∈ xs ↔ Joined rows s x := fun x => by
    rw [← jn x]
    constructor
    · intro m z
      have := valP_none z
      rw [mx] at this
      exact this (List.mem_map.mpr ⟨x, m, rfl⟩)
    · intro z
      cases hv : valP l (.inr x) with
      | none => exact absurd hv z
      | some v =>
        have : (Sum.inr x : L2.Key) ∈ l.map (·.1) := List.mem_map.mpr ⟨_, valP_mem hv, rfl⟩
        rw [mx] at this
        obtain ⟨y, hy, e⟩ := List.mem_map.mp this
        cases e
        exact hy
  have xs_ : ∀ x ∈ xs, x ∈ ns := fun x hx => by
    rcases ((xm x).mp hx).among with rfl | z
    · exact hs
    · exact he x z
  have xl := nodup_len xn xs_
  rw [sorted_dct e1 ex (by omega)]
  have se := side_eq nn xn xm xs_
  rw [se]
  simp
  have := f1.len
  exact q _ _ (by simp) (by omega) f1.appNew
/-- the heir of a tie -/
theorem heir_sat (tr : TN tbl) (h51 : tbl 51 = F_named) (h89 : tbl 89 = F_reach_among) (h90 : tbl 90 = F_heir_of) {v : PV} {us : List Tel} {ns : List Str} (b : Bk ns us) (nn : ns.Nodup) (sk : ∀ t ∈ us, SOk t) (on : ∀ x ∈ ns, zch x = true) (e : zbw h v = some (us.map Tel.pv)) {t : Tel} (ht : t ∈ zad us) {Q : PV → PH → Prop}
    (q : ∀ h', Fr [] h h' → Q (match heirT us t with | some u => .str u.name | none => .non) h') : (call tbl (k + 4) 90 [v, .str t.name] h).Sat Q := by
  have tm := zan ht
  rw [zam, h90]
  refine zay rfl ?_
  simp only [F_heir_of, zas, List.map, List.length, List.replicate, List.cons_append, List.nil_append]
  have bl := b.len
  have tl := zcn us
  have nl := b.nl
  rw [zai]
  simp [named_eq h51 (k := k + 2) e b.nd tm]
  rw [zai]
  simp
  refine zcx tr.h32 tr.h39 (k := k + 1) e b.nd bl fun n h1 e1 ln f1 => ?_
  have st : ∀ u ∈ zad us, SOk u := fun u hu => sk u (zan hu)
  rw [zai]
  simp [notin_rows e1 st (sk t tm), ht]
  rw [zai]
  simp
  refine v_filt (zad us) Tel.pv Tel.pv (fun u => !decide (u = t)) (l := [.ref n]) (h1 := h1) (by simp) (zbf e1) (zav e1) (by omega) (fun u hu => ⟨_, rfl, by simp [zbi, ne_pv (sk u (zan hu)) (sk t tm)], fun _ => by simp [zbi]⟩) ?_
  have ew : (zad us).filter (fun u => !decide (u = t)) = zag (zad us) t := rfl
  rw [ew]
  have e2 : (h1 ++ [PO.lst ((zag (zad us) t).map Tel.pv)])[h1.length]? = some (.lst ((zag (zad us) t).map Tel.pv)) := by simp
  have f2 : Fr [] h (h1 ++ [PO.lst ((zag (zad us) t).map Tel.pv)]) := f1.appNew
  generalize h1 ++ [PO.lst ((zag (zad us) t).map Tel.pv)] = h2 at e2 f2 ⊢
  generalize h1.length = n2 at e2 ⊢
  simp [pv1]
  have ok := b.ok t tm
  have sub : ∀ u ∈ zag (zad us) t, u ∈ us := fun u hu => zan (mem_without.mp hu).1
  refine reach_among_sat tr.h40 tr.h41 h89 (k := k) e2 (Nat.le_trans (List.length_filter_le ..) (by omega)) nn (by omega) ok.st (b.ends sub) fun n3 h3 e3 ln3 f3 => ?_
  have F3 := f2.trans f3
  rw [zai]
  have io := in_order_eq (k := k + 2) (h := h3) tr.h32 (F3.seq e) b.nd bl
  generalize hh4 : h3 ++ [PO.lst ((zaj us).map Tel.pv)] = h4 at io
  have a4 : h4[h3.length]? = some (.lst ((zaj us).map Tel.pv)) := by rw [← hh4]; simp
  have f4 : Fr [] h3 h4 := by rw [← hh4]; exact Fr.app
  have e4 := f4.some (by simp) e3
  have F4 := F3.trans f4
  have nearIn : ∀ x ∈ ns, zbd .In (.str x) (.ref n3) h4 = .ok (.bl (decide (x ∈ side ns (zag (zad us) t) t.st))) h4 := fun x hx => in_strs e4 (on x hx) fun y hy => on y (mem_side.mp hy).1
  have nearD : ∀ x ∈ ns, (x ∈ side ns (zag (zad us) t) t.st ↔ Near us t x) := fun x hx => by
    rw [mem_side]
    exact ⟨fun z => z.2, fun z => ⟨hx, z⟩⟩
  classical
  refine x_forE (l := [.ref h3.length]) (h1 := h4) (by simp [io]) (zbf a4) (fun i ρ g => ∃ o5, ρ = [some v, some (.str t.name), some t.pv, some (.ref n), some (.ref n3), o5, none] ∧ g = h4 ∧ ∀ u ∈ (zaj us).take i, ¬ Cross us t u) ⟨none, rfl, rfl, by simp⟩ ?_ ?_
  · rintro i x ρ g hx ⟨o5, rfl, rfl, nc⟩
    rw [List.getElem?_map] at hx
    obtain ⟨u, hu, rfl⟩ := Option.map_eq_some_iff.mp hx
    have um := (zar us).mem_iff.mp (List.mem_of_getElem? hu)
    have uk := b.ok u um
    refine ⟨zav a4, _, rfl, ?_⟩
    simp only [List.set]
    have tk : (zaj us).take (i + 1) = (zaj us).take i ++ [u] := by rw [List.take_add_one, hu]; rfl
    have nx : ¬ Cross us t u → ∀ w ∈ (zaj us).take (i + 1), ¬ Cross us t w := fun z w hw => by
      rw [tk] at hw
      rcases List.mem_append.mp hw with q | q
      · exact nc w q
      · rw [List.mem_singleton.mp q]; exact z
    simp [ne_pv (sk u um) (sk t tm), pv1, pv2, nearIn u.st uk.st, nearIn u.en uk.en]
    by_cases hc : Cross us t u
    · have h1 := hc.1
      have h2 : ¬ (u.st ∈ side ns (zag (zad us) t) t.st ↔ u.en ∈ side ns (zag (zad us) t) t.st) := by
        rw [nearD _ uk.st, nearD _ uk.en]
        exact hc.2
      have h2' : (decide (u.st ∈ side ns (zag (zad us) t) t.st) == decide (u.en ∈ side ns (zag (zad us) t) t.st)) = false := beq_eq_false_iff_ne.mpr fun z => h2 (decide_eq_decide.mp z)
      simp [h1, h2', pv0]
      have hf : heirT us t = some u := by
        unfold heirT
        obtain ⟨hi, ei⟩ := List.getElem?_eq_some_iff.mp hu
        rw [List.find?_eq_some_iff_append]
        refine ⟨decide_eq_true hc, (zaj us).take i, (zaj us).drop (i + 1), split_at hu, fun a ha => by simpa using nc a ha⟩
      have := q g F4
      rw [hf] at this
      simpa using this
    · by_cases h1 : u = t
      · simp [h1]
        exact nx hc
      · have h2 : (u.st ∈ side ns (zag (zad us) t) t.st ↔ u.en ∈ side ns (zag (zad us) t) t.st) := by
          rw [nearD _ uk.st, nearD _ uk.en]
          exact Classical.byContradiction fun z => hc ⟨h1, z⟩
        simp [h1, h2]
        exact nx hc
  · rintro ρ g ⟨o5, rfl, rfl, nc⟩
    refine ⟨zav a4, ?_⟩
    simp
    simp only [List.length_map, List.take_length] at nc
    have hf : heirT us t = none := by
      unfold heirT
      rw [List.find?_eq_none]
      intro u hu z
      exact nc u hu (of_decide_eq_true z)
    have := q g F4
    rw [hf] at this
    exact this
end
end Sb
namespace Sb
open PySem
section
variable {C : Calls} {ρ ρ1 : Env} {h h1 : PH} {N : Env → PH → Prop} {T : PV → PH → Prop} {b hs : List S} {c f : Str} {xs : List Str} {x : Exn} {i : Option Nat} {a : E} {t : Bool}
@[simp] theorem g_xat : evG C (.xat a f c) t ρ h = fin t ((evG C a false ρ h).bind fun x h1 => xatop x f c h1) := by rw [evG]
theorem x_tryH_ok (hb : (exSs C b ρ h).Sat N T) : (exS C (.tryH b xs hs) ρ h).Sat N T := by
  simp only [exS]
  generalize exSs C b ρ h = m at hb
  cases m with
  | nx _ _ => exact hb
  | rt _ _ => exact hb
  | bk _ _ => exact hb
  | ct _ _ => exact hb
  | ex _ _ _ => exact hb.elim
  | no => exact hb
theorem x_tryH_ex (e : exSs C b ρ h = .ex x ρ1 h1) (hm : x.cls ∈ xs) (q : (exH C hs x ρ1 h1).Sat N T) : (exS C (.tryH b xs hs) ρ h).Sat N T := by
  simp only [exS]
  rw [e]
  simp only
  rw [if_pos hm]
  exact q
theorem exH_hit (hc : hitX x.cls c = true) (q : (exSs C b (setO ρ i (some (.xc x.cls x.ns x.vs))) h).Sat (fun ρ1 h1 => coolE ρ (setO ρ1 i none) ∧ coolH h h1 ∧ N (setO ρ1 i none) h1) fun v h1 => coldV v = true ∧ coolH h h1 ∧ T v h1) : (exH C (.hd c i b :: hs) x ρ h).Sat N T := by
  simp only [exH]
  rw [if_pos hc]
  generalize exSs C b (setO ρ i (some (.xc x.cls x.ns x.vs))) h = m at q
  cases m with
  | nx _ _ =>
    obtain ⟨q1, q2, q3⟩ := q
    simp only [coolS]
    rw [if_pos ⟨q1, q2⟩]
    exact q3
  | rt _ _ =>
    obtain ⟨q1, q2, q3⟩ := q
    simp only [coolS]
    rw [if_pos ⟨q1, q2⟩]
    exact q3
  | bk _ _ => exact q.elim
  | ct _ _ => exact q.elim
  | ex _ _ _ => exact q.elim
  | no => exact q.elim
end
theorem coolH_app {h t : PH} (ht : ∀ o ∈ t, coldO o = true) : coolH h (h ++ t) := fun n o e => by
  by_cases hn : n < h.length
  · rw [List.getElem?_append_left hn] at e
    exact .inl e
  · rw [List.getElem?_append_right (by omega)] at e
    exact .inr (ht o (List.mem_of_getElem? e))
/-- one name is set -/
theorem coolE_set {ρ : Env} {i j : Nat} {v x : PV} (hv : coldV v = true) : coolE ρ (((ρ.set i (some x)).set j (some v)).set i none) := fun n p e => by
  by_cases h1 : n = i
  · subst h1
    rw [List.getElem?_set] at e
    split at e
    · split at e <;> cases e
    · rename_i z
      exact absurd rfl z
  · rw [List.getElem?_set_ne (Ne.symm h1)] at e
    by_cases h2 : n = j
    · subst h2
      rw [List.getElem?_set] at e
      split at e
      · split at e
        · cases e
          exact .inr hv
        · cases e
      · rename_i z
        exact absurd rfl z
    · rw [List.getElem?_set_ne (Ne.symm h2), List.getElem?_set_ne (Ne.symm h1)] at e
      exact .inl e
theorem isx_at {x c : Str} {ns : List Str} {vs : List PV} {h : PH} (hx : x ∈ excAll) (hc : c ∈ excAll) : biF .isx [.xc x ns vs, .cls c] h = .ok (.bl (decide (x = c))) h := by
  have n1 : c ≠ "BookError" := fun z => by
    subst z
    exact absurd hc (by decide +kernel)
  have n2 : c ≠ "ValueError" := fun z => by
    subst z
    exact absurd hc (by decide +kernel)
  have e : isX x c = some (decide (x = c)) := by
    unfold isX
    rw [if_pos ⟨hx, .inl hc⟩]
    simp [n1, n2]
  simp only [biF, biIsx, e]
theorem isx_bk {x : Str} {ns : List Str} {vs : List PV} {h : PH} (hx : x ∈ excAll) : biF .isx [.xc x ns vs, .cls "BookError"] h = .ok (.bl true) h := by
  have e : isX x "BookError" = some true := by
    unfold isX
    rw [if_pos ⟨hx, .inr (.inl rfl)⟩]
    simp
  simp only [biF, biIsx, e]
theorem isx_ve {x : Str} {ns : List Str} {vs : List PV} {h : PH} (hx : x ∈ excAll) : biF .isx [.xc x ns vs, .cls "ValueError"] h = .ok (.bl true) h := by
  have e : isX x "ValueError" = some true := by
    unfold isX
    rw [if_pos ⟨hx, .inr (.inr rfl)⟩]
    simp
  simp only [biF, biIsx, e]
def isxE (c : Str) : E := .bi .isx [.var 0, .lit (.cls c)]
theorem isxs {C : Calls} {x : Str} {ns : List Str} {vs : List PV} {ρ : Env} {g : PH} (hx : x ∈ excAll) : ∀ cs : List Str, (∀ c ∈ cs, c ∈ excAll) → evGs C (cs.map isxE) (some (.xc x ns vs) :: ρ) g = .ok (cs.map fun c => .bl (decide (x = c))) g
  | [], _ => by simp
  | c :: cs, hc => by
    have e : evG C (isxE c) false (some (.xc x ns vs) :: ρ) g = .ok (.bl (decide (x = c))) g := by
      simp [isxE, isx_at hx (hc c List.mem_cons_self)]
    rw [List.map_cons, gs_cons, e, R.bind_ok, isxs hx cs fun c h => hc c (List.mem_cons_of_mem _ h)]
    simp
theorem alone_step {C : Calls} {x : Str} {ns : List Str} {vs : List PV} {g : PH} {m : Nat} {as cs : List Str} (hx : x ∈ excAll) (hc : ∀ c ∈ cs, c ∈ excAll) (e : g[m]? = some (.lst (as.map fun c => .bl (decide (x = c))))) (l1 : as.length ≤ 100) (l2 : cs.length ≤ 100) {N : Env → PH → Prop} {T : PV → PH → Prop}
    (q : ∀ g' m', g'[m']? = some (.lst ((as ++ cs).map fun c => .bl (decide (x = c)))) → (∃ t, g' = g ++ t ∧ ∀ o ∈ t, coldO o = true) → N [some (.xc x ns vs), some (.ref m')] g') : (exS C (.asg (.nm 1) (.bin .Add (.var 1) (.lst (cs.map isxE)))) [some (.xc x ns vs), some (.ref m)] g).Sat N T := by
  have cold : ∀ l : List Str, coldVs (l.map fun c => PV.bl (decide (x = c))) = true := fun l => by
    induction l with
    | nil => rfl
    | cons c l ih => simpa [coldVs, coldV] using ih
  have ml := (List.getElem?_eq_some_iff.mp e).1
  have ad := b_addL (h := g ++ [PO.lst (cs.map fun c => .bl (decide (x = c)))]) (m := m) (n := g.length) (l := as.map fun c => .bl (decide (x = c))) (k := cs.map fun c => .bl (decide (x = c))) (by rw [List.getElem?_append_left ml]; exact e) (by simp) (by simp; omega)
  simp [isxs hx cs hc]
  rw [zaw _ (by simp; omega)]
  simp [ad]
  refine q _ _ ?_ ⟨_, rfl, ?_⟩
  · simp
  · intro o ho
    simp at ho
    rcases ho with rfl | rfl
    · exact cold cs
    · show coldVs _ = true
      rw [← List.map_append]
      exact cold _
theorem one_true : ∀ x ∈ excAll, (excAll.countP fun c => decide (x = c) == true) = 1 := by decide +kernel
theorem boolsD {x : Str} : ∀ cs : List Str, boolsOf (cs.map fun c => PV.bl (decide (x = c))) = some (cs.map fun c => decide (x = c))
  | [] => rfl
  | c :: cs => by simp [boolsOf, boolsD cs]
section
variable {tbl : Nat → Fn} {k : Nat}
theorem alone_hot (h77 : tbl 77 = F_law_alone) {x : Str} (hx : x ∈ excAll) {ns : List Str} {vs : List PV} {h : PH} {Q : PV → PH → Prop} (q : ∀ t, (∀ o ∈ t, coldO o = true) → Q (.bl true) (h ++ t)) : (call tbl (k + 1) 77 [.xc x ns vs] h).Sat Q := by
  rw [zam, h77]
  refine zay rfl ?_
  simp only [F_law_alone, zas, List.map, List.length, List.replicate, List.cons_append, List.nil_append]
  rw [zai]
  show (exS _ (.asg (.nm 1) (.lst ((["NoBottom", "NotJoined", "NoTelling", "NoTie"] : List Str).map isxE))) _ _).Sat _ _
  have m1 : ∀ c ∈ (["NoBottom", "NotJoined", "NoTelling", "NoTie"] : List Str), c ∈ excAll := by decide +kernel
  rw [x_set, g_lst, fin_f, isxs hx _ m1]
  simp only [R.bind_ok]
  rw [zaw _ (by simp)]
  simp only [sat_ok, List.set]
  have a0 : (h ++ [PO.lst ((["NoBottom", "NotJoined", "NoTelling", "NoTie"] : List Str).map fun c => .bl (decide (x = c)))])[h.length]? = some (.lst ((["NoBottom", "NotJoined", "NoTelling", "NoTie"] : List Str).map fun c => .bl (decide (x = c)))) := by simp
  have g0 : ∃ t, h ++ [PO.lst ((["NoBottom", "NotJoined", "NoTelling", "NoTie"] : List Str).map fun c => PV.bl (decide (x = c)))] = h ++ t ∧ ∀ o ∈ t, coldO o = true := ⟨_, rfl, fun o ho => by
    rw [List.mem_singleton.mp ho]
    rfl⟩
  generalize h ++ [PO.lst ((["NoBottom", "NotJoined", "NoTelling", "NoTie"] : List Str).map fun c => PV.bl (decide (x = c)))] = h0 at a0 g0
  generalize h.length = n0 at a0
  have tr : ∀ {g g' : PH}, (∃ t, g = h ++ t ∧ ∀ o ∈ t, coldO o = true) → (∃ t, g' = g ++ t ∧ ∀ o ∈ t, coldO o = true) → ∃ t, g' = h ++ t ∧ ∀ o ∈ t, coldO o = true := by
    rintro g g' ⟨t, rfl, ht⟩ ⟨u, rfl, hu⟩
    refine ⟨t ++ u, by rw [List.append_assoc], fun o ho => ?_⟩
    rcases List.mem_append.mp ho with z | z
    · exact ht o z
    · exact hu o z
  rw [zai]
  refine alone_step (cs := ["BadName", "Taken", "NoSuch", "InUse"]) hx (by decide +kernel) a0 (by simp) (by simp) fun h1 n1 a1 g1 => ?_
  rw [zai]
  refine alone_step (cs := ["Full", "Far", "Flat", "BadWeight"]) hx (by decide +kernel) a1 (by simp) (by simp) fun h2 n2 a2 g2 => ?_
  rw [zai]
  refine alone_step (cs := ["SameScale", "Vouched", "NotVouched"]) hx (by decide +kernel) a2 (by simp) (by simp) fun h3 n3 a3 g3 => ?_
  rw [zai]
  refine alone_step (cs := ["NotSheer", "Clash", "NoText", "NoBook"]) hx (by decide +kernel) a3 (by simp) (by simp) fun h4 n4 a4 g4 => ?_
  rw [zai]
  refine alone_step (cs := ["NoLevel", "NothingDone", "NoLine"]) hx (by decide +kernel) a4 (by simp) (by simp) fun h5 n5 a5 g5 => ?_
  have a6 : h5[n5]? = some (.lst (excAll.map fun c => .bl (decide (x = c)))) := a5
  obtain ⟨t, ht, ct⟩ := tr (tr (tr (tr (tr g0 g1) g2) g3) g4) g5
  have cn : mtF .count (.ref n5) [.bl true] h5 = .ok (.int 1) h5 := by
    simp only [mtF, mtCount, a6, boolsD]
    rw [List.countP_map]
    have := one_true x hx
    simp only [Function.comp_def]
    rw [this]
    rfl
  simp [ty_ref a6, MT.ty, cn, isx_bk hx, isx_ve hx]
  rw [ht]
  exact q t ct
end
section
variable {us : List Tel} {t u v : Tel}
theorem near_iff (ht : t ∈ zad us) (hu : u ∈ zad us) (hn : u ≠ t) : Near us t u.st ↔ Near us t u.en := by
  have j : Joined (zag (zad us) t) u.st u.en := Joined.of (mem_without.mpr ⟨hu, hn⟩)
  exact ⟨fun z => z.trans j, fun z => z.trans j.symm⟩
/-- the heir is no tie, and one zag the tie -/
theorem heir_new (nd : (us.map Tel.name).Nodup) (ht : t ∈ zad us) (hh : heirT us t = some u) : u ∈ zag us t ∧ ¬ zbt us u ∧ zbt (zag us t) u := by
  classical
  unfold heirT at hh
  have hu := List.mem_of_find?_eq_some hh
  have um : u ∈ us := (zar us).mem_iff.mp hu
  have hc : Cross us t u := by
    have := List.find?_some hh
    simpa using this
  refine ⟨mem_without.mpr ⟨um, hc.1⟩, fun it => ?_, fun j => ?_⟩
  · exact hc.2 (near_iff ht ((zcl nd).mpr ⟨um, it⟩) hc.1)
  · -- none of those ahead leads from side to side
    have nc : ∀ v ∈ ahead (zag us t) u, Near us t v.st ↔ Near us t v.en := fun v hv => by
      obtain ⟨v1, v2⟩ := mem_ahead.mp hv
      obtain ⟨v1, v3⟩ := mem_without.mp v1
      refine Classical.byContradiction fun z => ?_
      have cv : Cross us t v := ⟨v3, z⟩
      obtain ⟨A, B, es, hA⟩ := List.find?_eq_some_iff_append.mp hh |>.2
      have vs : v ∈ zaj us := (zar us).mem_iff.mpr v1
      have va := (pre_ahead nd es v).mpr (mem_ahead.mpr ⟨v1, v2⟩)
      have := hA v va
      simp [cv] at this
    have jn : ∀ {x y : Str}, Joined (ahead (zag us t) u) x y → (Near us t x ↔ Near us t y) := fun {x y} j => by
      induction j with
      | refl => exact Iff.rfl
      | step m _ e ih => rw [e] at ih; exact ih.trans (nc _ m)
      | back m _ e ih => rw [e] at ih; exact ih.trans (nc _ m).symm
    exact hc.2 (jn j)
/-- zag an heir nothing comes in the tie's place -/
theorem heir_old (nd : (us.map Tel.name).Nodup) (ht : t ∈ zad us) (hh : heirT us t = none) (hv : v ∈ zag us t) (n1 : ¬ zbt us v) : ¬ zbt (zag us t) v := fun n2 => by
  obtain ⟨vm, vt⟩ := mem_without.mp hv
  refine heir_no_cross hh v vm ⟨vt, fun eq => ?_⟩
  have j0 : Joined (ahead (zad us) v) v.st v.en := (joined_ahead nd).mp (Classical.not_not.mp n1)
  have j1 : Joined ((ahead (zad us) v).filter (fun u => !decide (u = t)) ++ [t]) v.st v.en := j0.mono fun u hu => by
    by_cases z : u = t
    · rw [z]
      simp
    · exact List.mem_append_left _ (List.mem_filter.mpr ⟨hu, by simp [z]⟩)
  have sub1 : ∀ u ∈ (ahead (zad us) v).filter (fun u => !decide (u = t)), u ∈ ahead (zag us t) v := fun u hu => by
    obtain ⟨h1, h2⟩ := List.mem_filter.mp hu
    obtain ⟨h3, h4⟩ := mem_ahead.mp h1
    exact mem_ahead.mpr ⟨mem_without.mpr ⟨zan h3, by simpa using h2⟩, h4⟩
  have sub2 : ∀ u ∈ (ahead (zad us) v).filter (fun u => !decide (u = t)), u ∈ zag (zad us) t := fun u hu => by
    obtain ⟨h1, h2⟩ := List.mem_filter.mp hu
    exact mem_without.mpr ⟨(mem_ahead.mp h1).1, by simpa using h2⟩
  rcases joined_snoc_iff.mp j1 with z | ⟨z1, z2⟩ | ⟨z1, z2⟩
  · exact n2 (z.mono sub1)
  · have a : Near us t v.st := (z1.mono sub2).symm
    exact tie_cut nd ht ((eq.mp a).trans (z2.mono sub2).symm)
  · have a : Near us t v.en := z2.mono sub2
    exact tie_cut nd ht ((eq.mpr a).trans (z1.mono sub2))
theorem ltTotal (nd : (us.map Tel.name).Nodup) (hu : u ∈ us) (hv : v ∈ us) (hn : u ≠ v) : ltT u v = true ∨ ltT v u = true := by
  have nn : u.name ≠ v.name := fun z => hn (tel_uniq nd hv hu z)
  have tt := zcv u.key v.key
  rw [Bool.or_eq_true] at tt
  rcases tt with z | z
  · exact .inl (lt_of_le z nn)
  · exact .inr (lt_of_le z (Ne.symm nn))
theorem name_mem {A : List Tel} (nd : (us.map Tel.name).Nodup) (sub : ∀ x ∈ A, x ∈ us) (hv : v ∈ us) : v.name ∈ A.map Tel.name ↔ v ∈ A := by
  constructor
  · intro h
    obtain ⟨w, h1, h2⟩ := List.mem_map.mp h
    rw [← tel_uniq nd hv (sub w h1) h2]
    exact h1
  · exact fun h => List.mem_map.mpr ⟨v, h, rfl⟩
noncomputable def heirN (us : List Tel) (t : Tel) : List Str := match heirT us t with | some u => [u.name] | none => []
/-- the ties zag a tie that were none -/
theorem fresh_eq (nd : (us.map Tel.name).Nodup) (ht : t ∈ zad us) : ((zad (zag us t)).map Tel.name).filter (fun n => !decide (n ∈ (zad us).map Tel.name)) = heirN us t := by
  classical
  have wn := without_nd nd t
  have e1 : ((zad (zag us t)).map Tel.name).filter (fun n => !decide (n ∈ (zad us).map Tel.name)) = ((zad (zag us t)).filter fun v => !decide (v ∈ zad us)).map Tel.name := by
    rw [List.filter_map]
    congr 1
    refine List.filter_congr fun v hv => ?_
    have vm := (mem_without.mp (zan hv)).1
    have := name_mem nd (fun x hx => zan hx) vm (A := zad us)
    simp only [Function.comp_def]
    rw [decide_eq_decide.mpr this]
  rw [e1]
  have mem : ∀ v ∈ (zad (zag us t)).filter (fun v => !decide (v ∈ zad us)), v ∈ zag us t ∧ zbt (zag us t) v ∧ ¬ zbt us v := fun v hv => by
    obtain ⟨h1, h2⟩ := List.mem_filter.mp hv
    obtain ⟨h3, h4⟩ := (zcl wn).mp h1
    refine ⟨h3, h4, fun z => ?_⟩
    have : v ∈ zad us := (zcl nd).mpr ⟨(mem_without.mp h3).1, z⟩
    simp [this] at h2
  cases hh : heirT us t with
  | none =>
    have : (zad (zag us t)).filter (fun v => !decide (v ∈ zad us)) = [] := by
      rw [List.eq_nil_iff_forall_not_mem]
      intro v hv
      obtain ⟨h1, h2, h3⟩ := mem v hv
      exact heir_old nd ht hh h1 h3 h2
    rw [this]
    simp [heirN, hh]
  | some u =>
    obtain ⟨u1, u2, u3⟩ := heir_new nd ht hh
    have um : u ∈ (zad (zag us t)).filter (fun v => !decide (v ∈ zad us)) := by
      refine List.mem_filter.mpr ⟨(zcl wn).mpr ⟨u1, u3⟩, ?_⟩
      have : u ∉ zad us := fun z => u2 ((zcl nd).mp z).2
      simp [this]
    have all : ∀ v ∈ (zad (zag us t)).filter (fun v => !decide (v ∈ zad us)), v = u := fun v hv => by
      obtain ⟨h1, h2, h3⟩ := mem v hv
      refine Classical.byContradiction fun hn => ?_
      rcases ltTotal wn h1 u1 hn with z | z
      · exact one_heir h1 z h3 h2 u2 u3
      · exact one_heir u1 z u2 u3 h3 h2
    have ndl : ((zad (zag us t)).filter (fun v => !decide (v ∈ zad us))).Nodup := (nd_self (nd_ties wn)).sublist List.filter_sublist
    have : (zad (zag us t)).filter (fun v => !decide (v ∈ zad us)) = [u] := by
      generalize (zad (zag us t)).filter (fun v => !decide (v ∈ zad us)) = L at um all ndl
      match L, um, all, ndl with
      | [x], um, all, _ => rw [all x (by simp)]
      | x :: y :: r, um, all, ndl =>
        have e1 := all x (by simp)
        have e2 := all y (by simp)
        rw [e1, e2] at ndl
        simp at ndl
    rw [this]
    simp [heirN, hh]
/-- the ties that are none zag one: that one alone -/
theorem lost_eq (nd : (us.map Tel.name).Nodup) (ht : t ∈ zad us) : ((zad us).map Tel.name).filter (fun n => !decide (n ∈ (zad (zag us t)).map Tel.name)) = [t.name] := by
  classical
  have wn := without_nd nd t
  have tm := zan ht
  have key : ∀ v ∈ zad us, (v.name ∈ (zad (zag us t)).map Tel.name ↔ v ≠ t) := fun v hv => by
    have vm := zan hv
    rw [name_mem nd (fun x hx => (mem_without.mp (zan hx)).1) vm]
    constructor
    · intro h z
      exact (mem_without.mp (zan h)).2 z
    · intro z
      exact (zcl wn).mpr ⟨mem_without.mpr ⟨vm, z⟩, tie_stays ((zcl nd).mp hv).2⟩
  have e1 : ((zad us).map Tel.name).filter (fun n => !decide (n ∈ (zad (zag us t)).map Tel.name)) = ((zad us).filter fun v => decide (v.name = t.name)).map Tel.name := by
    rw [List.filter_map]
    congr 1
    refine List.filter_congr fun v hv => ?_
    simp only [Function.comp_def]
    rw [Bool.eq_iff_iff]
    simp only [Bool.not_eq_true', decide_eq_false_iff_not, decide_eq_true_iff, key v hv]
    constructor
    · intro z
      rw [Classical.not_not.mp z]
    · intro z hz
      exact hz (tel_uniq nd tm (zan hv) z)
  rw [e1]
  have nt := nd_ties nd
  have : (zad us).filter (fun v => decide (v.name = t.name)) = [t] := by
    generalize zad us = L at ht nt
    induction L with
    | nil => cases ht
    | cons x r ih =>
      rw [List.map_cons, List.nodup_cons] at nt
      rcases List.mem_cons.mp ht with rfl | hr
      · rw [List.filter_cons, if_pos (by simp)]
        congr 1
        rw [List.filter_eq_nil_iff]
        intro y hy z
        exact nt.1 (by rw [← of_decide_eq_true z]; exact List.mem_map.mpr ⟨y, hy, rfl⟩)
      · rw [List.filter_cons, if_neg, ih hr nt.2]
        intro z
        exact nt.1 (by rw [of_decide_eq_true z]; exact List.mem_map.mpr ⟨t, hr, rfl⟩)
  rw [this]
  rfl
end
section
variable {tbl : Nat → Fn} {k : Nat} {h : PH}
theorem heir_noTie (tr : TN tbl) (h51 : tbl 51 = F_named) (h90 : tbl 90 = F_heir_of) {v : PV} {us : List Tel} {ns : List Str} (b : Bk ns us) (sk : ∀ t ∈ us, SOk t) (e : zbw h v = some (us.map Tel.pv)) {t : Tel} (tm : t ∈ us) (ht : t ∉ zad us) : ∃ h', Fr [] h h' ∧ call tbl (k + 4) 90 [v, .str t.name] h = .ex (xNoTie t.name) h' := by
  have e1 := named_eq h51 (k := k + 2) e b.nd tm
  obtain ⟨w, h1, e2, n, rfl, en, f1⟩ := (zcx tr.h32 tr.h39 (k := k + 1) e b.nd b.len (Q := fun w h' => ∃ n, w = .ref n ∧ h'[n]? = some (.lst ((zad us).map Tel.pv)) ∧ Fr [] h h') fun n h1 e1 _ f1 => ⟨n, rfl, e1, f1⟩).ex
  refine ⟨h1, f1, ?_⟩
  have ni := notin_rows en (fun u hu => sk u (zan hu)) (sk t tm)
  rw [zam, h90]
  simp only [runFn, F_heir_of, zas, List.length, List.map, List.replicate, List.cons_append, List.nil_append]
  rw [if_pos trivial]
  simp [exSs, exS, stTg, e1, e2, RS.toR, evT, ni, ht]
  rfl
end
end Sb
namespace Sb
open PySem
/-- a comprehension whose parts only add to the heap -/
theorem v_filtF {α : Type} {C : Calls} {tg : List Nat} {one : TgK} {k : ITK} {its : List E} {cond : Option E} {own : List Nat} {a : E} {ρ : Env} {h h1 : PH} {Q : PV → PH → Prop} {l : List PV} {kp : Keep} (xs : List α) (f g : α → PV) (p : α → Bool) (e1 : evGs C its ρ h = .ok l h1) (e2 : zcm k l h1 = some (xs.map f, kp)) (hk : ∀ h', Fr [] h1 h' → zbn kp h') (hl : xs.length ≤ 1000000)
    (hs : ∀ x ∈ xs, ∃ ρ1, zbo (zbi ρ own) tg one (f x) = some ρ1 ∧ ∀ h', Fr [] h1 h' → (evGc C cond ρ1 h').Sat fun b h2 => b = p x ∧ Fr [] h' h2 ∧ (p x = true → (evG C a false ρ1 h2).Sat fun v h3 => v = g x ∧ Fr [] h2 h3))
    (hd : ∀ h', Fr [] h1 h' → Q (.ref h'.length) (h' ++ [.lst ((xs.filter p).map g)])) : (evG C (.comp a tg one k its cond own) false ρ h).Sat Q := by
  refine v_compE e1 e2 (fun i acc h' => Fr [] h1 h' ∧ acc = ((xs.take i).filter p).map g) ⟨Fr.refl _ _, by simp⟩ ?_ ?_
  · rintro i y acc h' hy ⟨fr, rfl⟩
    rw [List.getElem?_map] at hy
    obtain ⟨u, hu, rfl⟩ := Option.map_eq_some_iff.mp hy
    have hi := (List.getElem?_eq_some_iff.mp hu).1
    obtain ⟨ρ1, h2, h3⟩ := hs u (List.mem_of_getElem? hu)
    refine ⟨hk _ fr, ρ1, h2, ?_⟩
    have fl : ((xs.take i).filter p).length ≤ i := Nat.le_trans (List.length_filter_le ..) (by rw [List.length_take]; omega)
    refine (h3 h' fr).imp fun b h4 => ?_
    rintro ⟨rfl, f4, h5⟩
    cases hp : p u with
    | false =>
      rw [if_neg Bool.false_ne_true, List.take_add_one, hu]
      exact ⟨fr.trans f4, by simp [List.filter_append, List.filter, hp]⟩
    | true =>
      rw [if_pos rfl]
      refine (h5 hp).imp fun v h6 => ?_
      rintro ⟨rfl, f6⟩
      refine ⟨zaq (by rw [List.length_map]; omega), fr.trans (f4.trans f6), ?_⟩
      rw [List.take_add_one, hu]
      simp [List.filter_append, List.filter, hp]
  · rintro acc h' ⟨fr, rfl⟩
    have fl : ((xs.take xs.length).filter p).length ≤ xs.length := Nat.le_trans (List.length_filter_le ..) (by rw [List.length_take]; omega)
    simp only [List.length_map, List.take_length] at fl ⊢
    exact ⟨hk _ fr, zaq (by omega), hd _ fr⟩
end Sb
namespace Sb
open PySem
section
variable {us : List Tel} {t u : Tel}
theorem fresh_mem (nd : (us.map Tel.name).Nodup) (ht : t ∈ zad us) {n : Str} : (n ∈ (zad (zag us t)).map Tel.name ∧ n ∉ (zad us).map Tel.name) ↔ n ∈ heirN us t := by
  rw [← fresh_eq nd ht, List.mem_filter]
  simp only [Bool.not_eq_true', decide_eq_false_iff_not]
/-- the ties behind: those ahead, the heir -/
theorem owed_eq (nd : (us.map Tel.name).Nodup) (ht : t ∈ zad us) : ((zaj (zag us t)).map Tel.name).filter (fun n => decide (n ∈ (zad us).map Tel.name ++ heirN us t)) = (zad (zag us t)).map Tel.name := by
  have ndw := without_nd nd t
  rw [zcd ndw, List.filter_map]
  congr 1
  refine List.filter_congr fun u hu => ?_
  have uw : u ∈ zag us t := (zar _).mem_iff.mp hu
  have um := (mem_without.mp uw).1
  have m1 : u.name ∈ (zad us).map Tel.name ↔ u ∈ zad us := name_mem nd (fun x hx => zan hx) um
  have m2 : u.name ∈ (zad (zag us t)).map Tel.name ↔ u ∈ zad (zag us t) := name_mem nd (fun x hx => (mem_without.mp (zan hx)).1) um
  have t1 : u ∈ zad us ↔ zbt us u := by
    rw [zcd nd, List.mem_filter, (zar us).mem_iff]
    simp [um]
  have t2 : u ∈ zad (zag us t) ↔ zbt (zag us t) u := by
    rw [zcd ndw, List.mem_filter, (zar _).mem_iff]
    simp [uw]
  have fm := fresh_mem nd ht (n := u.name)
  rw [Bool.eq_iff_iff]
  simp only [Function.comp, decide_eq_true_eq]
  rw [List.mem_append, ← fm, m1, m2, t1, t2]
  constructor
  · rintro (h | h)
    · exact tie_stays h
    · exact h.1
  · intro h
    by_cases c : zbt us u
    · exact .inl c
    · exact .inr ⟨h, c⟩
theorem owed_len (nd : (us.map Tel.name).Nodup) (ht : t ∈ zad us) : (zad (zag us t)).length + 1 = (zad us).length + (heirN us t).length := by
  have n1 := nd_ties nd
  have n2 := nd_ties (without_nd nd t)
  have f1 := len_filter (fun n => decide (n ∈ (zad us).map Tel.name)) ((zad (zag us t)).map Tel.name)
  have f2 := len_filter (fun n => decide (n ∈ (zad (zag us t)).map Tel.name)) ((zad us).map Tel.name)
  rw [fresh_eq nd ht] at f1
  rw [lost_eq nd ht] at f2
  have pm := perm_of (n1.filter fun n => decide (n ∈ (zad (zag us t)).map Tel.name)) (n2.filter fun n => decide (n ∈ (zad us).map Tel.name)) fun x => by
    simp only [List.mem_filter, decide_eq_true_eq]
    exact And.comm
  have := pm.length_eq
  rw [List.length_map] at f1 f2
  simp only [List.length_singleton] at f2
  omega
theorem joined_two {x y : Str} (nd : (us.map Tel.name).Nodup) : Joined (zad us) x y ↔ Joined us x y := by
  constructor
  · exact fun j => j.mono fun v hv => zan hv
  · intro j
    induction j with
    | refl => exact .refl _
    | step m _ e ih => exact ih.trans (e ▸ zc4 nd m)
    | back m _ e ih => exact ih.trans (e ▸ (zc4 nd m).symm)
end
section
variable {tbl : Nat → Fn} {k : Nat} {h : PH}
theorem heirL_sat (tn : TN tbl) (h51 : tbl 51 = F_named) (h89 : tbl 89 = F_reach_among) (h90 : tbl 90 = F_heir_of) (h136 : tbl 136 = F_law_heir) {v : PV} {us : List Tel} {ns : List Str} (b : Bk ns us) (nn : ns.Nodup) (sk : ∀ t ∈ us, SOk t) (on : ∀ x ∈ ns, zch x = true) (e : zbw h v = some (us.map Tel.pv)) {t : Tel} (ht : t ∈ zad us) {Q : PV → PH → Prop}
    (q : ∀ n h', h'[n]? = some (.lst ((heirN us t).map PV.str)) → h.length ≤ n → Fr [] h h' → Q (.ref n) h') : (call tbl (k + 5) 136 [v, .str t.name] h).Sat Q := by
  rw [zam, h136]
  refine zay rfl ?_
  simp only [F_law_heir, zas, List.map, List.length, List.replicate, List.cons_append, List.nil_append]
  rw [zai]
  simp
  rw [zai]
  refine x_tryN_ok ?_
  rw [zai]
  simp
  refine heir_sat tn h51 h89 h90 (k := k) b nn sk on e ht fun h1 f1 => ?_
  have := q h1.length (h1 ++ [.lst ((heirN us t).map PV.str)]) (by simp) f1.len f1.appNew
  cases hh : heirT us t with
  | none => simpa [heirN, hh, zaw, isNonP] using this
  | some u => simpa [heirN, hh, zaw, isNonP] using this
theorem heirN_sat (tn : TN tbl) (h51 : tbl 51 = F_named) (h90 : tbl 90 = F_heir_of) (h136 : tbl 136 = F_law_heir) {v : PV} {us : List Tel} {ns : List Str} (b : Bk ns us) (sk : ∀ t ∈ us, SOk t) (e : zbw h v = some (us.map Tel.pv)) {t : Tel} (tm : t ∈ us) (ht : t ∉ zad us) {Q : PV → PH → Prop}
    (q : ∀ h', Fr [] h h' → Q .non h') : (call tbl (k + 5) 136 [v, .str t.name] h).Sat Q := by
  rw [zam, h136]
  refine zay rfl ?_
  simp only [F_law_heir, zas, List.map, List.length, List.replicate, List.cons_append, List.nil_append]
  rw [zai]
  simp
  rw [zai]
  obtain ⟨h1, f1, e1⟩ := heir_noTie tn h51 h90 (k := k) b sk e tm ht
  refine x_tryN_ex (x := xNoTie t.name) (ρ1 := [some v, some (.str t.name), some .non, none]) (h1 := h1) (by simp [exSs, exS, e1]) (by simp [xNoTie]) rfl ?_
  simp
  exact q h1 f1
theorem same_hot2 (h377 : tbl 377 = F_law_same_hot_2) (x : Str) : call tbl (k + 1) 377 [.str x, .str x] h = .ok (.bl true) h := by
  have s : (call tbl (k + 1) 377 [.str x, .str x] h).Sat fun v h' => v = .bl true ∧ h' = h := by
    rw [zam, h377]
    refine zay rfl ?_
    simp only [F_law_same_hot_2, zas, List.map, List.length, List.replicate, List.cons_append, List.nil_append]
    have i1 : biF .isinst [.str x, .tup [.ty .tuple, .ty .list]] h = .ok (.bl false) h := by simp [biF, zbh, tyOf, tysOf, isTy]
    have i2 : biF .isinst [.str x, .ty .str] h = .ok (.bl true) h := by simp [biF, zbh, tyOf, isTy]
    rw [zai]
    simp [i1]
    rw [zai]
    simp [isNonP]
    rw [zai]
    simp [i2]
  obtain ⟨v, h', e, rfl, rfl⟩ := s.ex
  exact e
theorem hot_pair (h377 : tbl 377 = F_law_same_hot_2) (x y : Str) {Q : PV → PH → Prop} (q : Q (.bl true) (h ++ [.lst [.bl true, .bl true]])) : (call tbl (k + 2) 377 [.tup [.str x, .str y], .tup [.str x, .str y]] h).Sat Q := by
  rw [zam, h377]
  refine zay rfl ?_
  simp only [F_law_same_hot_2, zas, List.map, List.length, List.replicate, List.cons_append, List.nil_append]
  have i1 : biF .isinst [.tup [.str x, .str y], .tup [.ty .tuple, .ty .list]] h = .ok (.bl true) h := by simp [biF, zbh, tyOf, tysOf, isTy]
  have i2 : biF .isinst [.tup [.str x, .str y], .ty .tuple] h = .ok (.bl true) h := by simp [biF, zbh, tyOf, isTy]
  have i3 : biF .isinst [.tup [.str x, .str y], .ty .list] h = .ok (.bl false) h := by simp [biF, zbh, tyOf, isTy]
  have l1 : biF .len [.tup [.str x, .str y]] h = .ok (.int 2) h := rfl
  have ne : ∀ b, zbd .NotEq (.bl b) (.bl b) h = .ok (.bl false) h := fun b => by cases b <;> rfl
  have ni : zbd .NotEq (.int 2) (.int 2) h = .ok (.bl false) h := rfl
  rw [zai]
  simp [i1]
  rw [zai]
  simp [i2, ne]
  rw [zai]
  simp [i3, l1, ne, ni]
  refine v_filt [x, y] (fun z => .tup [.str z, .str z]) (fun _ => .bl true) (fun _ => true) (l := [.tup [.str x, .str y], .tup [.str x, .str y]]) (h1 := h) (by simp) rfl (zbu _) (by simp) (fun z hz => ⟨_, rfl, by simp, fun _ => by simp [zbi, same_hot2 h377]⟩) ?_
  have al : biF .all [.ref h.length] (h ++ [.lst [.bl true, .bl true]]) = .ok (.bl true) (h ++ [.lst [.bl true, .bl true]]) := by
    simp [biF, biAll, listOf, boolsOf]
  simp [al]
  exact q
theorem apart_sat (tr : TR tbl) (h77 : tbl 77 = F_law_alone) (h377 : tbl 377 = F_law_same_hot_2) (h378 : tbl 378 = F_law_apart_2) {v : PV} {us : List Tel} {ns : List Str} (b : Bk ns us) (e : zbw h v = some (us.map Tel.pv)) {s x : Str} (hs : s ∈ ns) {c : Bool} (hc : c = true ↔ ¬ Joined (zad us) s x) {Q : PV → PH → Prop} (q : ∀ h', Fr [] h h' → Q (.bl c) h') : (call tbl (k + 5) 378 [v, .str s, .str x] h).Sat Q := by
  rw [zam, h378]
  refine zay rfl ?_
  simp only [F_law_apart_2, zas, List.map, List.length, List.replicate, List.cons_append, List.nil_append]
  rw [zai]
  simp
  rw [zai]
  by_cases j : Joined (zad us) s x
  · obtain rfl : c = false := by
      cases c with
      | true => exact absurd j (hc.mp rfl)
      | false => rfl
    refine x_tryH_ok ?_
    simp
    exact road_of_satR tr (k := k) b e hs j fun m ch h' _ _ _ f => by
      try simp
      exact q h' f
  · obtain rfl : c = true := hc.mpr j
    obtain ⟨h1, f1, e1⟩ := road_of_exR tr (k := k) b e hs j
    refine x_tryH_ex (x := xNotJoined s x) (ρ1 := [some v, some (.str s), some (.str x), some (.bl false), none]) (h1 := h1) (by simp [exSs, exS, e1]) (by simp [xNotJoined]) ?_
    refine exH_hit (show hitX "NotJoined" "NotJoined" = true by decide +kernel) ?_
    simp [setO, xNotJoined, xatop]
    refine alone_hot h77 (k := k + 3) (by decide +kernel) fun t5 ct => ?_
    try simp
    refine ⟨.str s, rfl, hot_pair h377 (k := k + 2) s x ?_⟩
    have := q (h1 ++ t5 ++ [.lst [.bl true, .bl true]]) ((f1.trans Fr.app).trans Fr.app)
    refine ⟨coolE_set (ρ := [some v, some (.str s), some (.str x), some (.bl false), none]) (i := 4) (j := 3) (x := .non) rfl, ?_, this⟩
    rw [List.append_assoc]
    exact coolH_app fun o ho => by
      rcases List.mem_append.mp ho with z | z
      · exact ct o z
      · obtain rfl := List.mem_singleton.mp z
        rfl
structure T35 (tbl : Nat → Fn) : Prop where
  h7 : tbl 7 = F_law_same
  h33 : tbl 33 = F_order_of
  h46 : tbl 46 = F_bars_of
  h47 : tbl 47 = F_words_of
  h51 : tbl 51 = F_named
  h56 : tbl 56 = F_ties_of
  h77 : tbl 77 = F_law_alone
  h89 : tbl 89 = F_reach_among
  h90 : tbl 90 = F_heir_of
  h136 : tbl 136 = F_law_heir
  h377 : tbl 377 = F_law_same_hot_2
  h378 : tbl 378 = F_law_apart_2
end
section
variable {tbl : Nat → Fn}
theorem same_namesL {h : PH} {m n : Nat} {l : List Str} (e1 : h[m]? = some (.lst (l.map PV.str))) (e2 : h[n]? = some (.lst (l.map PV.str))) (hl : l.length ≤ 1000) : sameP h 1 (.ref m) (.ref n) := same_list (d := 0) e1 e2 (by rw [List.length_map]; omega) fun x hx => by
  obtain ⟨y, _, rfl⟩ := List.mem_map.mp hx
  exact same_str _
theorem v_filtS {α : Type} {C : Calls} {tg : List Nat} {one : TgK} {k : ITK} {its : List E} {cond : Option E} {own : List Nat} {a : E} {ρ : Env} {h : PH} {Q : PV → PH → Prop} (xs : List α) (f g : α → PV) (p : α → Bool) (hl : xs.length ≤ 1000000)
    (hs : (evGs C its ρ h).Sat fun l h1 => ∃ kp, zcm k l h1 = some (xs.map f, kp) ∧ zbn kp h1 ∧ (∀ x ∈ xs, ∃ ρ1, zbo (zbi ρ own) tg one (f x) = some ρ1 ∧ evGc C cond ρ1 h1 = .ok (p x) h1 ∧ (p x = true → evG C a false ρ1 h1 = .ok (g x) h1)) ∧ Q (.ref h1.length) (h1 ++ [.lst ((xs.filter p).map g)])) : (evG C (.comp a tg one k its cond own) false ρ h).Sat Q := by
  obtain ⟨l, h1, e, kp, e2, hk, hq, hd⟩ := hs.ex
  exact v_filt xs f g p e e2 hk hl hq hd
theorem eq_strsK {h : PH} {m n : Nat} {l k : List Str} (e1 : h[m]? = some (.lst (l.map PV.str))) (e2 : h[n]? = some (.lst (k.map PV.str))) (o1 : ∀ x ∈ l, zch x = true) (o2 : ∀ x ∈ k, zch x = true) : zbd .Eq (.ref m) (.ref n) h = .ok (.bl (decide (l = k))) h := by
  show ofO ((eqP h (.ref m) (.ref n)).map PV.bl) h = _
  have p1 : pd h 8 (.ref m) = some (.list (l.map PyData.str)) := by simp only [pd, e1, pd_strs o1]; rfl
  have p2 : pd h 8 (.ref n) = some (.list (k.map PyData.str)) := by simp only [pd, e2, pd_strs o2]; rfl
  simp only [eqP, p1, p2, PyData.eqv, eqv_strs]
  rfl
theorem k35_true (T : T35 tbl) (td : TD tbl) (tl : TL tbl) (tm : TM tbl) (tw : TW tbl) (tr : TR tbl) (h4 : tbl 4 = F_law_start) (h379 : tbl 379 = F_law_39) (ns : List Int) (hn : ns.length ≤ 63) : (call tbl 12 379 [.cl (ns.map PV.int)] []).Sat fun v _ => v = .bl true := by
  classical
  rw [zam, h379]
  refine zay rfl ?_
  simp only [F_law_39, zas, List.map, List.length, List.replicate, List.cons_append, List.nil_append]
  rw [zai]
  simp
  refine kstart h4 (k := 10) hn fun h0 K0 _ => ?_
  try simp
  rw [zai]
  simp
  refine kdraw td (k := 9) K0 (by decide) (by decide) (by decide) fun r1 h1 r10 r11 K1 _ _ => ?_
  try simp
  obtain ⟨m1, hm1⟩ : ∃ m1 : Nat, 1 + r1 = (m1 : Nat) := ⟨(1 + r1).toNat, by omega⟩
  refine knames td (k := 8) K1 hm1 (by omega) (by omega) fun p sc h2 K2 ls nn _ => ?_
  try simp
  rw [zai]
  simp
  refine kdraw td (k := 9) K2 (by omega) (by decide) (by decide) fun r2 h3 r20 r21 K3 _ _ => ?_
  try simp
  obtain ⟨m2, hm2⟩ : ∃ m2 : Nat, 1 + r2 = (m2 : Nat) := ⟨(1 + r2).toNat, by omega⟩
  refine ktellings td tl (k := 6) (i := 0) K3 hm2 rfl (by omega) (by omega) (by omega) (by omega) fun rn us h4' K4 lu un uok _ => ?_
  try simp
  have K4 := K4.up (show _ ≤ 20000 by omega)
  have bk : Bk sc us := ⟨un.nd, fun t ht => (uok t ht).w, by omega, by omega⟩
  have on : ∀ x ∈ sc, zch x = true := fun x hx => (nn.nm x hx).ok
  have sk : ∀ t ∈ us, SOk t := fun t ht => ⟨(un.nm _ (List.mem_map.mpr ⟨t, ht, rfl⟩)).ok, on _ (uok t ht).st, on _ (uok t ht).en⟩
  have tn := tr.tn
  have sl := sort_len us
  obtain ⟨li, hli⟩ : ∃ li : Int, li = (us.length : Nat) := ⟨_, rfl⟩
  have bl : biF .len [.ref rn] h4' = .ok (.int li) h4' := by rw [bi_len_ref (K4.get 0), List.length_map, hli]
  rw [zai]
  simp [bl]
  refine kpick td (k := 9) (i := 0) K4 rfl (by omega) hli (by omega) (by omega) fun j t h5 hu K5 => ?_
  have tmm := List.mem_of_getElem? hu
  try simp
  refine ⟨_, rfl, ?_⟩
  simp only [List.set]
  rw [zai]
  simp
  refine v_filt us Tel.pv Tel.pv (fun u => !decide (u.name = t.name)) (l := [.ref rn]) (h1 := h5) (by simp) (zbf (K5.get 0)) (zav (K5.get 0)) (by omega) (fun u hu => ⟨_, rfl, by simp [zbi, pv0, zbd], fun _ => by simp [zbi]⟩) ?_
  have wn : us.filter (fun u => !decide (u.name = t.name)) = zag us t := by
    unfold zag
    refine List.filter_congr fun u hu => ?_
    congr 1
    exact decide_eq_decide.mpr ⟨fun z => tel_uniq un.nd tmm hu z, fun z => by rw [z]⟩
  rw [wn]
  have K6 := K5.push (.lst ((zag us t).map Tel.pv))
  generalize h5 ++ [PO.lst ((zag us t).map Tel.pv)] = h6 at K6
  generalize h5.length = wr at K6
  have sub : (zag us t).Sublist us := List.filter_sublist
  have bw := bk.sub sub
  have wl : (zag us t).length ≤ us.length := sub.length_le
  have skw : ∀ u ∈ zag us t, SOk u := fun u hu => sk u (mem_without.mp hu).1
  have trl := zcn us
  have trl2 := zcn (zag us t)
  have slw := sort_len (zag us t)
  have okN : ∀ ws : List Tel, (∀ u ∈ ws, u ∈ us) → ∀ x ∈ ws.map Tel.name, zch x = true := fun ws hw x hx => by
    obtain ⟨u, hu, rfl⟩ := List.mem_map.mp hx
    exact (sk u (hw u hu)).name
  have okT := okN (zad us) fun u hu => zan hu
  have okW := okN (zad (zag us t)) fun u hu => (mem_without.mp (zan hu)).1
  rw [zai]
  simp
  refine ties_of_sat tr.h32 tr.h39 T.h56 (k := 8) (seqR (K6.get 1)) un.nd (by omega) fun tr1 h7 e7 l7 f7 => ?_
  have K7 := K6.new f7 l7 e7
  have mem : t.name ∈ (zad us).map Tel.name ↔ t ∈ zad us := name_mem un.nd (fun x hx => zan hx) tmm
  rw [zai]
  simp
  by_cases ht : t ∈ zad us
  · refine heirL_sat tn T.h51 T.h89 T.h90 T.h136 (k := 6) bk nn.nd sk on (seqR (K7.get 2)) ht fun hr h8 e8 l8 f8 => ?_
    have K8 := K7.new f8 l8 e8
    have hl1 : (heirN us t).length ≤ 1 := by unfold heirN; split <;> simp
    have okH : ∀ x ∈ heirN us t, zch x = true := fun x hx => okW x ((fresh_mem un.nd ht).mpr hx).1
    rw [zai]
    simp [isNonP]
    rw [zai]
    simp
    have oo := order_of_eq tw.h32 T.h33 (k := 9) (seqR (K8.get 2)) bw.nd (by omega)
    have nm : (zaj (zag us t)).map (fun t => PV.str t.name) = ((zaj (zag us t)).map Tel.name).map PV.str := by
      rw [List.map_map]
      rfl
    rw [nm] at oo
    have eo : (h8 ++ [PO.lst ((zaj (zag us t)).map Tel.pv), PO.lst (((zaj (zag us t)).map Tel.name).map PV.str)])[h8.length + 1]? = some (.lst (((zaj (zag us t)).map Tel.name).map PV.str)) := by simp
    have Ko := K8.fr (Fr.app (S := []) (t := [PO.lst ((zaj (zag us t)).map Tel.pv), PO.lst (((zaj (zag us t)).map Tel.name).map PV.str)]))
    generalize h8 ++ [PO.lst ((zaj (zag us t)).map Tel.pv), PO.lst (((zaj (zag us t)).map Tel.name).map PV.str)] = ho at oo eo Ko
    generalize h8.length + 1 = on' at oo eo
    refine v_filtF ((zaj (zag us t)).map Tel.name) PV.str PV.str (fun n => decide (n ∈ (zad us).map Tel.name ++ heirN us t)) (l := [.ref on']) (h1 := ho) (by simp [oo]) (zbf eo) (fun g f => zav (f.some (by simp) eo)) (by rw [List.length_map]; omega) (fun x hx => ⟨_, rfl, fun g fg => ?_⟩) fun h9 f9 => ?_
    · have Kg := Ko.fr fg
      have ad := b_addL (Kg.get 1) (Kg.get 0) (by rw [List.length_map, List.length_map, List.length_map]; omega)
      rw [← List.map_append] at ad
      have xk : zch x = true := okN (zaj (zag us t)) (fun u hu => (mem_without.mp ((zar _).mem_iff.mp hu)).1) x hx
      have isin := in_strs (h := g ++ [PO.lst (((zad us).map Tel.name ++ heirN us t).map PV.str)]) (n := g.length) (x := x) (ns := (zad us).map Tel.name ++ heirN us t) (by simp) xk fun y hy => (List.mem_append.mp hy).elim (okT y) (okH y)
      simp only [List.set, zbi]
      generalize (zad us).map Tel.name ++ heirN us t = B at ad isin ⊢
      by_cases c : x ∈ B
      · simp [ad, isin, c, Fr.app]
        try exact Fr.refl _ _
      · simp [ad, isin, c, Fr.app]
    · rw [owed_eq un.nd ht]
      have K9 := (Ko.fr f9).push (.lst (((zad (zag us t)).map Tel.name).map PV.str))
      generalize h9 ++ [PO.lst (((zad (zag us t)).map Tel.name).map PV.str)] = h10 at K9
      generalize h9.length = ow at K9
      rw [zai]
      have nin := notin_strs (K9.get 2) (okT _ (mem.mpr ht)) okT
      rw [decide_eq_true (mem.mpr ht)] at nin
      simp [nin]
      refine ties_of_sat tr.h32 tr.h39 T.h56 (k := 8) (seqR (K9.get 3)) bw.nd (by omega) fun tw1 h11 e11 l11 f11 => ?_
      have K10 := K9.new f11 l11 e11
      try simp
      refine same_sat T.h7 (k := 9) (d := 1) (same_namesL (K10.get 0) (K10.get 1) (by rw [List.length_map]; omega)) fun t12 => ?_
      have K11 := K10.app t12
      generalize h11 ++ t12 = h12 at K11
      have ol := owed_len un.nd ht
      have l1 : biF .len [.ref ow] h12 = .ok (.int ((zad (zag us t)).length : Nat)) h12 := by rw [bi_len_ref (K11.get 1), List.length_map, List.length_map]
      have l2 : biF .len [.ref tr1] h12 = .ok (.int ((zad us).length : Nat)) h12 := by rw [bi_len_ref (K11.get 3), List.length_map, List.length_map]
      have l3 : biF .len [.ref hr] h12 = .ok (.int ((heirN us t).length : Nat)) h12 := by rw [bi_len_ref (K11.get 2), List.length_map]
      have ar : (((zad us).length : Nat) : Int) - 1 + ((heirN us t).length : Nat) = ((zad (zag us t)).length : Nat) := by omega
      have nei : ∀ i : Int, zbd .NotEq (.int i) (.int i) h12 = .ok (.bl false) h12 := fun i => by simp [zbd, eqP, pd, PyData.eqv]
      have sb : binop .Sub (.int ((zad us).length : Nat)) (.int 1) h12 = .ok (.int (((zad us).length : Nat) - 1)) h12 := rfl
      have ab : binop .Add (.int (((zad us).length : Nat) - 1)) (.int ((heirN us t).length : Nat)) h12 = .ok (.int ((zad (zag us t)).length : Nat)) h12 := by rw [← ar]; rfl
      simp [l1, l2, l3, sb, ab, nei]
      have jw : decide (heirN us t = []) = true ↔ ¬ Joined (zad (zag us t)) t.st t.en := by
        rw [decide_eq_true_eq, joined_two bw.nd, ← heir_none un.nd ht]
        unfold heirN
        cases heirT us t <;> simp
      refine apart_sat tr T.h77 T.h377 T.h378 (k := 6) bw (seqR (K11.get 4)) (uok t tmm).st (c := decide (heirN us t = [])) jw fun h13 f13 => ?_
      have K12 := (K11.fr f13).push (.lst [])
      have eq1 := eq_strsK (l := heirN us t) (k := []) (K12.get 3) (K12.get 0) okH (by simp)
      have eb : ∀ (b : Bool) (g : PH), zbd .Eq (.bl b) (.bl b) g = .ok (.bl true) g := fun b g => by cases b <;> rfl
      simp [zaw]
      rw [eq1]
      simp [eb]
      refine apart_sat tr T.h77 T.h377 T.h378 (k := 6) bk (seqR (K12.get 6)) (uok t tmm).st (c := false) (by simp [zc4 un.nd tmm]) fun h14 f14 => ?_
      try simp
  · refine heirN_sat tn T.h51 T.h90 T.h136 (k := 6) bk sk (seqR (K7.get 2)) tmm ht fun h8 f8 => ?_
    have K8 := K7.fr f8
    have nt : ¬ zbt us t := fun z => ht (by
      rw [zcd un.nd, List.mem_filter]
      exact ⟨(zar us).mem_iff.mpr tmm, decide_eq_true z⟩)
    obtain ⟨P, R, J⟩ := bk.rows
    obtain ⟨P1, R1, J1⟩ := bw.rows
    rw [zai]
    simp [isNonP]
    rw [zai]
    simp
    refine v_filtS (zaj us) (wW us) (wW us) (fun u => !decide (u.name = t.name)) (by omega) ?_
    simp
    refine words_satW tw tm T.h46 T.h47 (k := 3) bk (by omega) (seqR (K8.get 2)) R J fun wn1 h9 e9 l9 f9 => ?_
    rw [wW_eq R] at e9
    refine ⟨_, zbf e9, zav e9, fun u hu => ⟨_, rfl, ?_, fun _ => by simp [zbi]⟩, ?_⟩
    · have i0 : zcc (wW us u) (.int 0) h9 = .ok (.str u.name) h9 := rfl
      simp [zbi, i0, zbd]
    have K9 := (K8.new f9 l9 e9).push (.lst (((zaj us).filter fun u => !decide (u.name = t.name)).map (wW us)))
    have wf : ((zaj us).filter fun u => !decide (u.name = t.name)).map (wW us) = (zaj (zag us t)).map (wW (zag us t)) := by
      have fe : (zaj us).filter (fun u => !decide (u.name = t.name)) = zaj (zag us t) := by
        rw [sort_without un.nd]
        refine List.filter_congr fun u hu => ?_
        congr 1
        exact decide_eq_decide.mpr ⟨fun z => tel_uniq un.nd tmm ((zar us).mem_iff.mp hu) z, fun z => by rw [z]⟩
      rw [fe]
      refine List.map_congr_left fun u hu => ?_
      unfold wW
      rw [word_without un.nd nt]
    rw [wf] at K9 ⊢
    generalize h9 ++ [PO.lst ((zaj (zag us t)).map (wW (zag us t)))] = h10 at K9
    generalize h9.length = ow at K9
    have nin := notin_strs (K9.get 2) (sk t tmm).name okT
    rw [decide_eq_false (fun z => ht (mem.mp z))] at nin
    rw [nin]
    simp
    refine ties_of_sat tr.h32 tr.h39 T.h56 (k := 8) (seqR (K9.get 3)) bw.nd (by omega) fun tw1 h11 e11 l11 f11 => ?_
    rw [ties_without un.nd nt] at e11
    have K10 := K9.new f11 l11 e11
    try simp
    refine same_sat T.h7 (k := 9) (d := 1) (same_namesL (K10.get 0) (K10.get 3) (by rw [List.length_map]; omega)) fun t12 => ?_
    have K11 := K10.app t12
    generalize h11 ++ t12 = h12 at K11
    try simp
    refine words_satW tw tm T.h46 T.h47 (k := 3) bw (by omega) (seqR (K11.get 4)) R1 J1 fun wn2 h13 e13 l13 f13 => ?_
    rw [wW_eq R1] at e13
    have K12 := K11.new f13 l13 e13
    try simp
    refine same_sat T.h7 (k := 8) (d := 2) (same_words (K12.get 0) (K12.get 2) (by omega)) fun t14 => ?_
    try simp
end
end Sb
namespace Sb
theorem law_true : ∀ ns : List Int, ns.length ≤ 63 → ∃ h, call tbl LV 379 [.cl (ns.map PV.int)] [] = .ok (.bl true) h := fun ns hn => by
  have s : (call tbl 12 379 [.cl (ns.map PV.int)] []).Sat fun v _ => v = .bl true := by
    apply k35_true (tbl := tbl) <;> first | assumption | rfl | (constructor <;> rfl)
  obtain ⟨v, h, e, rfl⟩ := s.ex
  exact ⟨h, e⟩
end Sb
open PySem PySem.W PySem.Calls PyProof.Rows
set_option maxHeartbeats 0 in
theorem PySem.Challenge.cw_scalebook_k35_whole_heirs_take_the_place_holds : PySem.Challenge.rw_scalebook_k35_whole_heirs_take_the_place.Holds := by
  w_on; o_law
  refine HandSHeadRun.head_any (r := OpenLaw.row PySem.Challenge.rw_scalebook_k35_whole_heirs_take_the_place) (q := view (OpenLaw.row PySem.Challenge.rw_scalebook_k35_whole_heirs_take_the_place).prog [39, 73]) (H := Sb.hookU 5 Sb.hfa Sb.hfn Sb.hex Sb.hts) (ob := Sb.obsU 5 Sb.hfa Sb.hfn Sb.hex Sb.hts) (M := 9000) (loose := Sb.loose) (d := HandSHeadRun.topDef (OpenLaw.row PySem.Challenge.rw_scalebook_k35_whole_heirs_take_the_place).prog 73) (kwd := []) Sb.obsU_eq
    (by kernel_rfl) (fun s => by kernel_rfl) Sb.run (by kernel_rfl) (by kernel_rfl) (by kernel_rfl) (by rfl) (by first | assumption | decide +kernel) (by decide +kernel) ⟨rfl, rfl, rfl, rfl, rfl, by decide +kernel⟩ ?hw ?hc
  case hw => w_witness2
  case hc =>
    refine Sb.walk_ofT (l := PySem.Challenge.rw_scalebook_k35_whole_heirs_take_the_place) (n := 63) (k := 2 * Sb.LV + 3) (x := "_law_script") rfl (by decide) (by kernel_rfl) ⟨rfl, by decide, by decide⟩ ?F
    intro w mg mb mean fa h Y TP hmg0
    have G := TP.g
    obtain ⟨K, KX, c, e, D⟩ := Y
    have hmg : mg ("law" : PySem.Str) = some (.ref fa) := by
      have e : (HandSHeadRun.topDef (OpenLaw.row PySem.Challenge.rw_scalebook_k35_whole_heirs_take_the_place).prog 73).name = ("law" : PySem.Str) := by kernel_rfl
      rw [← e]
      exact hmg0
    obtain ⟨fd, hb, hF⟩ := Sb.law_fn (P := (PySem.Challenge.rw_scalebook_k35_whole_heirs_take_the_place).prog) (w := w) KX G hmg c e D
    have tt : ∀ p ∈ Sb.tabCs K, CodeHd h p.1 p.2 ∧ h.get? p.2 = some (tabObj #[]) := fun p hp => by
      obtain ⟨x, hx, e1⟩ := Sb.tabCs_tab hp
      rcases (Sb.tabB_parts (Sb.hex_tab e)).2.2.2 x hx with z | z
      · simp only [List.mem_cons, List.not_mem_nil, or_false] at z
        rcases z with rfl
        · exact tab_of (d := HandSHeadRun.topDef (OpenLaw.row PySem.Challenge.rw_scalebook_k35_whole_heirs_take_the_place).prog 39) TP KX (by kernel_rfl) e1
      · rw [z] at e1
        cases e1
    exact ⟨K, fd, _, Sb.tabCs K, KX, fun p hp => (tt p hp).2, Sb.tabB_none (Sb.hex_tab e), fun p hp => (tt p hp).1, hb, fun H a ns hl hO hT hS => Sb.law_endT Sb.law_true H a ns hl hO hT hS, hF⟩
