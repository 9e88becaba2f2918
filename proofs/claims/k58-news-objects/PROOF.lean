import PyProof.Rows.All
import Wide.All
import OpenK.AllK
import Wide.FinOn
import HandS.ForMost
import HandS.IsInst
import HandS.Wide
import HandS.Flow
import HandS.NoneIn
import HandS.Deep
import HandS.SetKeys
import HandS.DictComp
import HandS.TupAny
import KE.SortData
import KE.DatumOrd
import HandS.HeadHook1
import HandS.HeadHook2
import HandS.Lambda
import KE.KNest
import HandS.Defaults
import HandS.Head0
import HandS.Head1
import HandS.Head2
import HandS.HeadEnd
import HandS.EndTab
import HandS.ExcInit
import HandS.ExcCtx
import HandS.HotCalls
import HandS.ExcField
import KE.KExcIs
import KE.DataFind
import HandS.HeadHook3
import Open.Seg
import PySem.Challenge.RW_scalebook_k58_news_objects
import HandS.ExcValue
import HandS.Zip
import KE.KEqDict
import HandS.Style
import HandS.TupMul
import PyProof.StrOps2
import PyProof.Rows.StrMeet
import HandS.Exc
import HandS.ExcOwn
import HandS.WordsExc
import HandS.CallSlots
import HandS.ExcInitHot
import HandS.ExcIs
import KE.KSortKey
import KE.KSortTupG
import HandS.SortKw
import KE.KUnpackStar
import HandS.SetBool
import HandS.SetFor
import KE.KDictZip
import PyProof.DictUpdate
import HandS.MakeKw
import KE.GoesMore
import KE.GoesZip
import HandS.OwnEq
import HandS.More
import KE.KDictPairs
import HandS.Conv
import HandS.Hot
import HandS.Comp
import HandS.Set
import HandS.Strs
import PyProof.Rows.SortShellAny
import PyProof.Rows.SeqMore
import KE.KCallOwn
import HandS.FStr
import HandS.MakeKwOnly
import HandS.NamedTupGet
set_option Elab.async false
set_option linter.all false
set_option maxRecDepth 100000
set_option maxHeartbeats 4000000
namespace Sb
open PySem
inductive Ty where
  | none | bool | int | str | tuple | list | dict | set
  deriving DecidableEq
def Ty.nm : Ty → String
  | .none => "NoneType" | .bool => "bool" | .int => "int" | .str => "str" | .tuple => "tuple" | .list => "list" | .dict => "dict" | .set => "set"
inductive PV where
  | non | bl (b : Bool) | int (i : Int) | str (x : Str) | tup (l : List PV) | ref (n : Nat) | cl (l : List PV) | ty (t : Ty)
  /-- a class of the program; an exception that is handled -/
  | cls (x : Str) | xc (x : Str) (ns : List Str) (vs : List PV)
  /-- a set of ints and texts (never changed) -/
  | ste (l : List L2.Key)
  /-- an exception that was made, not raised: its class, its fields (newest first), their values -/
  | exv (x : Str) (ns : List Str) (vs : List PV)
inductive PO where
  | lst (l : List PV)
  /-- a dict by ints and texts -/
  | dct (l : List (L2.Key × PV))
  /-- an instance of an own class -/
  | obj (c : Str) (fs : List (Str × PV))
  /-- a dict by tuples of ints and texts -/
  | dtp (l : List (List L2.Key × PV))
abbrev PH := List PO
structure Exn where
  cls : Str
  ns : List Str
  vs : List PV
inductive R (α : Type) where
  | ok (a : α) (h : PH)
  | ex (x : Exn) (h : PH)
  | no
def R.bind {α β : Type} (m : R α) (f : α → PH → R β) : R β :=
  match m with
  | .ok a h => f a h
  | .ex x h => .ex x h
  | .no => .no
@[simp] theorem R.bind_ok {α β : Type} (a : α) (h : PH) (f : α → PH → R β) : (R.ok a h).bind f = f a h := rfl
@[simp] theorem R.bind_ex {α β : Type} (x : Exn) (h : PH) (f : α → PH → R β) : (R.ex x h : R α).bind f = .ex x h := rfl
@[simp] theorem R.bind_no {α β : Type} (f : α → PH → R β) : (R.no : R α).bind f = .no := rfl
/-- a value that may not be there -/
def ofO {α : Type} (o : Option α) (h : PH) : R α := match o with | some a => .ok a h | none => .no
@[simp] theorem za6 {α : Type} (a : α) (h : PH) : ofO (some a) h = .ok a h := rfl
@[simp] theorem ofO_none {α : Type} (h : PH) : ofO (none : Option α) h = .no := rfl
/-- no exception is let out -/
def R.calm {α : Type} (m : R α) : R α := match m with | .ok a h => .ok a h | _ => .no
@[simp] theorem R.calm_ok {α : Type} (a : α) (h : PH) : (R.ok a h).calm = .ok a h := rfl
/-- the items of a list (in the heap or constant) or tuple -/
def seqOf (h : PH) : PV → Option (List PV)
  | .tup l => some l
  | .cl l => some l
  | .ref n => match h[n]? with | some (.lst l) => some l | _ => none
  | _ => none
def listOf (h : PH) : PV → Option (List PV)
  | .cl l => some l
  | .ref n => match h[n]? with | some (.lst l) => some l | _ => none
  | _ => none
def tyOf (h : PH) : PV → Option Ty
  | .non => some .none | .bl _ => some .bool | .int _ => some .int | .str _ => some .str | .tup _ => some .tuple | .cl _ => some .list
  | .ref n => match h[n]? with | some (.lst _) => some .list | some (.dct _) => some .dict | _ => none
  | .ty _ => none
  | .cls _ => none
  | .xc _ _ _ => none
  | .ste _ => none
  | .exv _ _ _ => none
def zaq (n : Nat) : Bool := decide (n ≤ 1000000)
def truthy (h : PH) : PV → Option Bool
  | .non => some false
  | .bl b => some b
  | .int i => some (i != 0)
  | .str x => if zaq x.length then some (decide (0 < x.length)) else none
  | .tup l => some (!l.isEmpty)
  | .cl l => some (!l.isEmpty)
  | .ref n => match h[n]? with | some (.lst l) => some (!l.isEmpty) | some (.dct l) => some (!l.isEmpty) | _ => none
  | .ty _ => none
  | .cls _ => none
  | .xc _ _ _ => none
  | .ste _ => none
  | .exv _ _ _ => none
def alloc (l : List PV) (h : PH) : R PV := if zaq l.length then .ok (.ref h.length) (h ++ [.lst l]) else .no
def tupO (l : List PV) (h : PH) : R PV := if zaq l.length then .ok (.tup l) h else .no
def mapO {α β : Type} (f : α → Option β) : List α → Option (List β)
  | [] => some []
  | a :: r => match f a, mapO f r with | some b, some s => some (b :: s) | _, _ => none
def strOkP (x : Str) : Bool := x.cps.all (· < 0x110000)
def pd (h : PH) : Nat → PV → Option PyData
  | _, .non => some .none
  | _, .bl b => some (.bool b)
  | _, .int i => some (.int i)
  | _, .str x => if strOkP x then some (.str x) else none
  | n + 1, .tup l => (mapO (pd h n) l).map .tuple
  | n + 1, .cl l => (mapO (pd h n) l).map .list
  | n + 1, .ref m => match h[m]? with | some (.lst l) => (mapO (pd h n) l).map .list | _ => none
  | _, _ => none
def keyOf : PV → Option L2.Key
  | .int i => some (.inl i)
  | .str x => some (.inr x)
  | _ => none
def keyP : L2.Key → PV
  | .inl i => .int i
  | .inr x => .str x
def valP (l : List (L2.Key × PV)) (k : L2.Key) : Option PV := (l.find? fun kv => decide (kv.1 = k)).map (·.2)
/-- == of two values that are data -/
def eqvP (h : PH) (a b : PV) : Bool := match pd h 8 a, pd h 8 b with | some d, some e => PyData.eqv d e | _, _ => false
def dHit (h : PH) (k : List (L2.Key × PV)) (kv : L2.Key × PV) : Bool := match valP k kv.1 with | some v => eqvP h kv.2 v | none => false
/-- == of two dicts whose values are data -/
def dEq (h : PH) (l k : List (L2.Key × PV)) : Option Bool :=
  if (l.all fun kv => (pd h 8 kv.2).isSome) && (k.all fun kv => (pd h 8 kv.2).isSome) then
    some ((l.length == k.length) && l.all (dHit h k))
  else none
def dEqP (h : PH) : PV → PV → Option Bool
  | .ref m, .ref n => (match h[m]?, h[n]? with | some (.dct l), some (.dct k) => dEq h l k | _, _ => none)
  | _, _ => none
def eqP (h : PH) (a b : PV) : Option Bool := match pd h 8 a, pd h 8 b with | some d, some e => some (PyData.eqv d e) | _, _ => dEqP h a b
/-- == of two inner dicts -/
def inEq (h : PH) (p q : PV) : Option Bool := match p, q with
  | .ref m, .ref n => if m = n then some true else dEqP h (.ref m) (.ref n)
  | _, _ => none
def hit2 (h : PH) (k : List (L2.Key × PV)) (kv : L2.Key × PV) : Option Bool := match valP k kv.1 with | some v => inEq h kv.2 v | none => some false
/-- all of them; what lies behind one that is not is asked for, too -/
def allO : List (Option Bool) → Option Bool
  | [] => some true
  | none :: _ => none
  | some b :: r => (allO r).map (b && ·)
/-- == of two dicts whose values are dicts of data -/
def dEq2 (h : PH) (l k : List (L2.Key × PV)) : Option Bool := (allO (l.map (hit2 h k))).map fun r => (l.length == k.length) && r
def dEq2P (h : PH) : PV → PV → Option Bool
  | .ref m, .ref n => (match h[m]?, h[n]? with | some (.dct l), some (.dct k) => dEq2 h l k | _, _ => none)
  | _, _ => none
def putP (l : List (L2.Key × PV)) (k : L2.Key) (v : PV) : List (L2.Key × PV) :=
  if (l.any fun kv => decide (kv.1 = k)) = true then l.map (fun kv => if kv.1 = k then (kv.1, v) else kv) else l ++ [(k, v)]
def mergeP (l more : List (L2.Key × PV)) : List (L2.Key × PV) := more.foldl (fun acc kv => putP acc kv.1 kv.2) l
/-- k1, v1, k2, v2, .. -/
def pairUp : List PV → Option (List (L2.Key × PV))
  | [] => some []
  | [_] => none
  | k :: v :: r => (match keyOf k, pairUp r with | some k, some l => some ((k, v) :: l) | _, _ => none)
/-- a new dict -/
def allocD (l : List (L2.Key × PV)) (h : PH) : R PV := .ok (.ref h.length) (h ++ [.dct l])
/-- x in y -/
def inSeqP (h : PH) (x : PV) (l : List PV) : Option Bool := match pd h 8 x, mapO (pd h 8) l with | some d, some ds => some (ds.any fun z => PyData.eqv z d) | _, _ => none
/-- a sign in a text -/
def signIn (x y : Str) : Option Bool := match x.cps.toList with | [c] => some (decide (c ∈ y.cps.toList)) | _ => none
def inP (h : PH) (x : PV) : PV → Option Bool
  | .str y => match x with | .str z => signIn z y | _ => none
  | .tup l => inSeqP h x l
  | .cl l => inSeqP h x l
  | .ref n => match h[n]? with
    | some (.lst l) => inSeqP h x l
    | some (.dct l) => (keyOf x).map fun k => (valP l k).isSome
    | _ => none
  | .ste l => (keyOf x).map fun k => l.any fun j => decide (j = k)
  | _ => none
def mulOk (i j : Int) : Bool := decide (i.natAbs.log2 + j.natAbs.log2 < 1000000)
def divOk (j : Int) : Bool := decide (j ≠ 0) && decide (j.natAbs.log2 < 9000)
def powOk (i j : Int) : Bool := decide (0 ≤ j) && decide (j ≤ 1000000) && decide (i.natAbs < 2 ^ 64)
def binop (op : Operator) (a b : PV) (h : PH) : R PV :=
  match op, a, b with
  | .Add, .int i, .int j => .ok (.int (i + j)) h
  | .Sub, .int i, .int j => .ok (.int (i - j)) h
  | .Mult, .int i, .int j => if mulOk i j then .ok (.int (i * j)) h else .no
  | .FloorDiv, .int i, .int j => if divOk j then .ok (.int (i.fdiv j)) h else .no
  | .Mod, .int i, .int j => if j = 0 then .no else .ok (.int (i.fmod j)) h
  | .Pow, .int i, .int j => if powOk i j then .ok (.int (i ^ j.toNat)) h else .no
  | .Add, .str x, .str y => if zaq (x.length + y.length) then .ok (.str (x ++ y)) h else .no
  | .Add, .ref m, .ref n => match h[m]?, h[n]? with
    | some (.lst l), some (.lst k) => if zaq (l.length + k.length) then alloc (l ++ k) h else .no
    | _, _ => .no
  | .Mult, .ref m, .int k => match h[m]? with
    | some (.lst l) => if 0 ≤ k ∧ k ≤ 1000 ∧ l.length ≤ 1000 then .ok (.ref h.length) (h ++ [.lst (List.replicate k.toNat l).flatten]) else .no
    | _ => .no
  | .Add, .tup l, .tup k => if zaq (l.length + k.length) then .ok (.tup (l ++ k)) h else .no
  | .Mult, .str x, .int k => if k = 1 then .ok (.str x) h else if k = 0 then .ok (.str Str.empty) h else .no
  | .Mult, .tup l, .int k => if l ≠ [] ∧ k = 1 then .ok (.tup l) h else if l ≠ [] ∧ k = 0 then .ok (.tup []) h else .no
  | _, _, _ => .no
def ltStr (x y : Str) : Bool := decide (x.cps.toList < y.cps.toList)
def isNonP : PV → Bool
  | .non => true
  | _ => false
def cmpop (op : CmpOp) (a b : PV) (h : PH) : R PV :=
  match op, a, b with
  | .Lt, .int i, .int j => .ok (.bl (decide (i < j))) h
  | .LtE, .int i, .int j => .ok (.bl (decide (i ≤ j))) h
  | .Gt, .int i, .int j => .ok (.bl (decide (j < i))) h
  | .GtE, .int i, .int j => .ok (.bl (decide (j ≤ i))) h
  | .Lt, .str x, .str y => .ok (.bl (ltStr x y)) h
  | .Is, x, .non => .ok (.bl (isNonP x)) h
  | .IsNot, x, .non => .ok (.bl (!isNonP x)) h
  | .Is, .bl x, .bl y => .ok (.bl (decide (x = y))) h
  | .IsNot, .bl x, .bl y => .ok (.bl (!decide (x = y))) h
  | .Eq, .str x, .str y => .ok (.bl (decide (x = y))) h
  | .NotEq, .str x, .str y => .ok (.bl (!decide (x = y))) h
  | .Eq, x, y => ofO ((eqP h x y).map .bl) h
  | .NotEq, x, y => ofO ((eqP h x y).map fun b => .bl (!b)) h
  | .In, x, y => ofO ((inP h x y).map .bl) h
  | .NotIn, x, y => ofO ((inP h x y).map fun b => .bl (!b)) h
  | .Gt, .str x, .str y => .ok (.bl (ltStr y x)) h
  | _, _, _ => .no
def idxop (a i : PV) (h : PH) : R PV :=
  match a, i with
  | .str x, .int i => if zaq x.length then (match L2.atI x.cps.toList i with | some c => .ok (.str ⟨#[c]⟩) h | none => .no) else .no
  | .ref n, i => (match h[n]? with
    | some (.lst l) => (match i with | .int j => ofO (L2.atI l j) h | _ => .no)
    | some (.dct l) => (match keyOf i with | some k => ofO (valP l k) h | none => .no)
    | _ => .no)
  | .tup l, .int i => ofO (L2.atI l i) h
  | .cl l, .int i => ofO (L2.atI l i) h
  | _, _ => .no
/-- a[lo:hi] -/
def cutP (l : List PV) (lo hi : Option Int) : List PV := (l.drop (HT.sIx l.length 0 lo)).take (HT.sIx l.length l.length hi - HT.sIx l.length 0 lo)
def slcop (a : PV) (lo hi : Option Int) (h : PH) : R PV :=
  match a with
  | .tup l => .ok (.tup (cutP l lo hi)) h
  | a => match listOf h a with
    | some l => .ok (.ref h.length) (h ++ [.lst (cutP l lo hi)])
    | none => .no
def stpop (a st : PV) (h : PH) : R PV :=
  match a, st with
  | .tup [u, w], .int 1 => .ok (.tup [u, w]) h
  | .tup (x :: l), .int (-1) => .ok (.tup (x :: l).reverse) h
  | _, _ => .no
def revop (a : PV) (h : PH) : R PV := match listOf h a with
  | some l => alloc l.reverse h
  | none => .no
def zbo (a i v : PV) (h : PH) : Option PH :=
  match a with
  | .ref n => match h[n]? with
    | some (.lst l) => (match i with | .int i => (match L2.ixN l.length i with | some j => some (h.set n (.lst (l.set j v))) | none => none) | _ => none)
    | some (.dct l) => (match keyOf i with | some k => if zaq (l.length + 1) then some (h.set n (.dct (putP l k v))) else none | none => none)
    | _ => none
  | _ => none
def valQ (l : List (List L2.Key × PV)) (k : List L2.Key) : Option PV := (l.find? fun kv => decide (kv.1 = k)).map (·.2)
def putQ (l : List (List L2.Key × PV)) (k : List L2.Key) (v : PV) : List (List L2.Key × PV) :=
  if (l.any fun kv => decide (kv.1 = k)) = true then l.map (fun kv => if kv.1 = k then (kv.1, v) else kv) else l ++ [(k, v)]
def keysOfP : List PV → Option (List L2.Key)
  | [] => some []
  | p :: r => match keyOf p, keysOfP r with | some k, some l => some (k :: l) | _, _ => none
/-- d[(..)] -/
def getQ (a : PV) (ks : List PV) (h : PH) : R PV :=
  match a with
  | .ref n => (match h[n]? with
    | some (.dtp l) => (match keysOfP ks with | some k => if zaq ks.length then ofO (valQ l k) h else .no | none => .no)
    | _ => .no)
  | _ => .no
/-- d[(..)] = v -/
def setQ (a : PV) (ks : List PV) (v : PV) (h : PH) : Option PH :=
  match a with
  | .ref n => (match h[n]? with
    | some (.dtp l) => (match keysOfP ks with | some k => if zaq (l.length + 1) && zaq ks.length then some (h.set n (.dtp (putQ l k v))) else none | none => none)
    | _ => none)
  | _ => none
inductive BI where
  | strR | lenR | eqR | neR | fcat | xmk (x : Str) (ns : List Str) | xatA (f : Str) | isx | abs | len | all | any | isinst | tupleOf | listOf | int1 | min2 | max2 | str1 | sorted1 | dictOf | minN | sortSet | dictZip | lenSet | sum | isC | rangeL | sumL
  deriving DecidableEq
inductive MT where
  | count | append | popAt | join | get1 | get2 | setd | clear | insert | index | pop0 | update | popK | reverse | extend | remove
  deriving DecidableEq
def MT.ty : MT → Ty
  | .count => .list | .append => .list | .popAt => .list | .join => .str | .get1 => .dict | .get2 => .dict | .setd => .dict | .clear => .list | .insert => .list | .index => .list | .pop0 => .list | .update => .dict | .popK => .dict | .reverse => .list | .extend => .list | .remove => .list
def isTy : Ty → Ty → Bool
  | .bool, .int => true
  | a, b => decide (a = b)
def boolsOf : List PV → Option (List Bool)
  | [] => some []
  | .bl b :: r => (boolsOf r).map (b :: ·)
  | _ :: _ => none
def tysOf : List PV → Option (List Ty)
  | [] => some []
  | .ty b :: r => (tysOf r).map (b :: ·)
  | _ :: _ => none
def biAbs (as : List PV) (h : PH) : R PV := match as with
  | [.int i] => .ok (.int (if i < 0 then -i else i)) h
  | _ => .no
def biLen (as : List PV) (h : PH) : R PV := match as with
  | [.str x] => if zaq x.length then .ok (.int x.length) h else .no
  | [.ref n] => (match h[n]? with | some (.lst l) => .ok (.int l.length) h | some (.dct l) => .ok (.int l.length) h | _ => .no)
  | [.tup l] => .ok (.int l.length) h
  | [.cl l] => .ok (.int l.length) h
  | _ => .no
def strsOf : List PV → Option (List Str)
  | [] => some []
  | .str b :: r => (strsOf r).map (b :: ·)
  | _ :: _ => none
def intsOf : List PV → Option (List Int)
  | [] => some []
  | .int b :: r => (intsOf r).map (b :: ·)
  | _ :: _ => none
def leStr (x y : Str) : Bool := !ltStr y x
def sortS (l : List Str) : List Str := l.mergeSort leStr
def sortI (l : List Int) : List Int := l.mergeSort fun a b => decide (a ≤ b)
/-- by the order of data -/
def isTupD : PyData → Bool
  | .tuple (_ :: _) => true
  | _ => false
def sortableD (ds : List PyData) : Bool := (ds.all fun d => ds.all fun e => PySem.W.alike d e) && (ds.all isTupD && decide (ds.length ≤ 1000))
def sortD (ds : List PyData) (l : List PV) : List PV := ((l.zip ds).mergeSort (PySem.W.dataLe false Prod.snd)).map Prod.fst
/-- sorted(x): texts, ints, a dict's keys (texts); tuples of data -/
def biSorted (as : List PV) (h : PH) : R PV := match as with
  | [.ref n] => (match h[n]? with
    | some (.lst l) => (match strsOf l, intsOf l with
      | some xs, _ => if xs.length < 64 then .ok (.ref h.length) (h ++ [.lst ((sortS xs).map PV.str)]) else .no
      | _, some xs => if xs.length < 64 then .ok (.ref h.length) (h ++ [.lst ((sortI xs).map PV.int)]) else .no
      | _, _ => (match mapO (pd h 8) l with
        | some ds => if sortableD ds then .ok (.ref h.length) (h ++ [.lst (sortD ds l)]) else .no
        | none => .no))
    | some (.dct l) => (match strsOf (l.map fun kv => keyP kv.1) with
      | some xs => if xs.length < 64 then .ok (.ref h.length) (h ++ [.lst ((sortS xs).map PV.str)]) else .no
      | none => .no)
    | _ => .no)
  | _ => .no
def pairsOf : List PV → Option (List (L2.Key × PV))
  | [] => some []
  | .tup [k, v] :: r => (match keyOf k, pairsOf r with | some k, some l => some ((k, v) :: l) | _, _ => none)
  | _ :: _ => none
/-- dict(x): of a dict, of a list of pairs -/
def biDict (as : List PV) (h : PH) : R PV := match as with
  | [.ref n] => (match h[n]? with
    | some (.lst l) => (match pairsOf l with | some kvs => allocD (mergeP [] kvs) h | none => .no)
    | some (.dct l) => allocD l h
    | _ => .no)
  | _ => .no
def biAll (as : List PV) (h : PH) : R PV := match as with
  | [a] => (match (listOf h a).bind boolsOf with | some bs => .ok (.bl (bs.all id)) h | none => .no)
  | _ => .no
def biAny (as : List PV) (h : PH) : R PV := match as with
  | [a] => (match (listOf h a).bind boolsOf with | some bs => .ok (.bl (bs.any id)) h | none => .no)
  | _ => .no
def zbr (as : List PV) (h : PH) : R PV := match as with
  | [a, .ty t] => (match tyOf h a with | some s => .ok (.bl (isTy s t)) h | none => .no)
  | [a, .tup l] => (match tyOf h a, tysOf l with | some s, some ts => .ok (.bl (ts.any (isTy s))) h | _, _ => .no)
  | _ => .no
/-- the program's own refusals -/
def excAll : List Str := ["NoBottom", "NotJoined", "NoTelling", "NoTie", "BadName", "Taken", "NoSuch", "InUse", "Full", "Far", "Flat", "BadWeight", "SameScale", "Vouched", "NotVouched", "NotSheer", "Clash", "NoText", "NoBook", "NoLevel", "NothingDone", "NoLine"]
/-- is an exception of the class x one of the class c? -/
def isX (x c : Str) : Option Bool := if x ∈ excAll ∧ (c ∈ excAll ∨ c = "BookError" ∨ c = "ValueError") then some (decide (x = c) || decide (c = "BookError") || decide (c = "ValueError")) else none
def biIsx (as : List PV) (h : PH) : R PV := match as with
  | [.xc x _ _, .cls c] => (match isX x c with | some b => .ok (.bl b) h | none => .no)
  | [.exv x _ _, .cls c] => (match isX x c with | some b => .ok (.bl b) h | none => .no)
  | _ => .no
/-- x(e, ..) as a value -/
def biXmk (x : Str) (ns : List Str) (as : List PV) (h : PH) : R PV := match ns with
  | [] => if as.length = 1 then .ok (.exv x [] []) h else .no
  | _ => if as.length = ns.length then .ok (.exv x ns as.reverse) h else .no
/-- e.f of an exception that was made -/
def xfAll : List Str := ["top", "start", "end", "name", "kind", "a", "weight", "part", "row", "voucher"]
def biXat (f : Str) (as : List PV) (h : PH) : R PV := match as with
  | [.exv x ns vs] => if x ∈ excAll ∧ f ∈ xfAll then ofO ((ns.zip vs).lookup f) h else .no
  | _ => .no
/-- str(i) -/
def biStr (as : List PV) (h : PH) : R PV := match as with
  | [.int i] => if i.natAbs.log2 < 1920 then .ok (.str (toString i)) h else .no
  | _ => .no
/-- what an own __str__, __len__, == tells -/
def biStrR (as : List PV) (h : PH) : R PV := match as with
  | [.str x] => .ok (.str x) h
  | _ => .no
def biLenR (as : List PV) (h : PH) : R PV := match as with
  | [.int i] => if 0 ≤ i ∧ i ≤ 1000000 then .ok (.int i) h else .no
  | _ => .no
def biEqR (as : List PV) (h : PH) : R PV := match as with
  | [.bl b] => .ok (.bl b) h
  | _ => .no
def biNeR (as : List PV) (h : PH) : R PV := match as with
  | [.bl b] => .ok (.bl (!b)) h
  | _ => .no
/-- f"..": texts and ints, one behind the other -/
def fpart : PV → Option Str
  | .str x => some x
  | .int i => if i.natAbs.log2 < 1920 then some (toString i) else none
  | _ => none
def fcatG : List Str → Str → Option Str
  | [], acc => some acc
  | y :: r, acc => if (acc ++ y).length ≤ 1000000 then fcatG r (acc ++ y) else none
def biFcat (as : List PV) (h : PH) : R PV := match (mapO fpart as).bind fun l => fcatG l Str.empty with
  | some x => .ok (.str x) h
  | none => .no
def biTuple (as : List PV) (h : PH) : R PV := match as with
  | [.tup l] => .ok (.tup l) h
  | [a] => (match listOf h a with | some l => .ok (.tup l) h | none => .no)
  | _ => .no
def biList (as : List PV) (h : PH) : R PV := match as with
  | [.ref n] => (match h[n]? with
    | some (.lst l) => .ok (.ref h.length) (h ++ [.lst l])
    | some (.dct l) => .ok (.ref h.length) (h ++ [.lst (l.map fun kv => keyP kv.1)])
    | _ => .no)
  | [.tup l] => .ok (.ref h.length) (h ++ [.lst l])
  | [.cl l] => .ok (.ref h.length) (h ++ [.lst l])
  | _ => .no
def biInt (as : List PV) (h : PH) : R PV := match as with
  | [.int i] => .ok (.int i) h
  | [.bl b] => .ok (.int (if b then 1 else 0)) h
  | _ => .no
def biMin2 (as : List PV) (h : PH) : R PV := match as with
  | [.int i, .int j] => .ok (.int (if j < i then j else i)) h
  | [.ref n] => (match h[n]? with
    | some (.lst l) => (match (intsOf l).bind List.min? with | some m => .ok (.int m) h | none => .no)
    | _ => .no)
  | _ => .no
def biMax2 (as : List PV) (h : PH) : R PV := match as with
  | [.int i, .int j] => .ok (.int (if j > i then j else i)) h
  | _ => .no
/-- min(xs, default=None), ints -/
def biMinN (as : List PV) (h : PH) : R PV := match as with
  | [.ref n] => (match h[n]? with
    | some (.lst l) => (match intsOf l with | some xs => .ok (match xs.min? with | some m => .int m | none => .non) h | none => .no)
    | _ => .no)
  | _ => .no
/-- sorted(set(xs)), ints -/
def dedupI : List Int → List Int
  | [] => []
  | x :: r => if x ∈ r then dedupI r else x :: dedupI r
def uniqI (xs : List Int) : List Int := sortI (dedupI xs)
def addS (l : List Str) (k : Str) : List Str := if k ∈ l then l else l ++ [k]
def uniqS (xs : List Str) : List Str := sortS (xs.foldl addS [])
def strSet (l : List PV) (h : PH) : R PV := match strsOf l with
  | some xs => if xs.length ≤ 1000 then .ok (.ref h.length) (h ++ [.lst ((uniqS xs).map PV.str)]) else .no
  | none => .no
def biSortSet (as : List PV) (h : PH) : R PV := match as with
  | [.ref n] => (match h[n]? with
    | some (.lst l) => (match intsOf l with | some xs => if xs.length < 64 then .ok (.ref h.length) (h ++ [.lst ((uniqI xs).map PV.int)]) else .no | none => strSet l h)
    | _ => .no)
  | [.tup l] => strSet l h
  | _ => .no
/-- dict(zip(xs, ys)) -/
def biDictZip (as : List PV) (h : PH) : R PV := match as with
  | [.ref m, .ref n] => (match h[m]?, h[n]? with
    | some (.lst l), some (.lst k) => (match mapO keyOf l with | some ks => allocD (mergeP [] (ks.zip k)) h | none => .no)
    | _, _ => .no)
  | _ => .no
def addK (l : List L2.Key) (k : L2.Key) : List L2.Key := if (l.any fun j => decide (j = k)) = true then l else l ++ [k]
/-- len(set(xs)) -/
def biLenSet (as : List PV) (h : PH) : R PV := match as with
  | [.ref n] => (match h[n]? with
    | some (.lst l) => (match mapO keyOf l with | some ks => if ks.length < 1000 then .ok (.int (ks.foldl addK []).length) h else .no | none => .no)
    | _ => .no)
  | _ => .no
/-- sum(xs), ints -/
def biSum (as : List PV) (h : PH) : R PV := match as with
  | [.ref n] => (match h[n]? with
    | some (.lst l) => (match intsOf l with | some xs => .ok (.int xs.sum) h | none => .no)
    | _ => .no)
  | _ => .no
/-- isinstance(x, c), c a class of the program that is no error -/
def isInsP (c : Str) (h : PH) (a : PV) : Option Bool := match tyOf h a with
  | some _ => some false
  | none => match a with
    | .ref n => match h[n]? with
      | some (.obj c' _) => if c' = c then some true else none
      | _ => none
    | _ => none
def biIsC (as : List PV) (h : PH) : R PV := match as with
  | [a, .cls c] => (match isInsP c h a with | some b => .ok (.bl b) h | none => .no)
  | _ => .no
/-- list(range(a, b)) -/
def biRangeL (as : List PV) (h : PH) : R PV := match as with
  | [.int a, .int b] => if 0 ≤ a ∧ a ≤ 1000 ∧ 0 ≤ b ∧ b ≤ 1000 then .ok (.ref h.length) (h ++ [.lst ((List.range (b - a).toNat).map fun (i : Nat) => PV.int (a + (i : Int)))]) else .no
  | _ => .no
/-- sum(xs, []), xs a list of lists -/
def biSumL (as : List PV) (h : PH) : R PV := match as with
  | [.ref n] => (match h[n]? with
    | some (.lst l) => (match mapO (listOf h) l with | some ls => if ls.flatten.length ≤ 1000 then .ok (.ref h.length) (h ++ [.lst ls.flatten]) else .no | none => .no)
    | _ => .no)
  | _ => .no
def biF : BI → List PV → PH → R PV
  | .xmk x ns => biXmk x ns | .xatA f => biXat f | .isx => biIsx | .abs => biAbs | .len => biLen | .all => biAll | .any => biAny | .isinst => zbr | .tupleOf => biTuple | .listOf => biList | .int1 => biInt | .min2 => biMin2 | .max2 => biMax2
  | .str1 => biStr | .strR => biStrR | .lenR => biLenR | .eqR => biEqR | .neR => biNeR | .fcat => biFcat
  | .sorted1 => biSorted | .dictOf => biDict | .minN => biMinN | .sortSet => biSortSet | .dictZip => biDictZip | .lenSet => biLenSet | .sum => biSum | .isC => biIsC | .rangeL => biRangeL | .sumL => biSumL
def mtAppend (o : PV) (as : List PV) (h : PH) : R PV := match o, as with
  | .ref n, [v] => (match h[n]? with
    | some (.lst l) => if zaq (l.length + 1) then .ok .non (h.set n (.lst (l ++ [v]))) else .no
    | _ => .no)
  | _, _ => .no
/-- bs.count(b), truths alone -/
def mtCount (o : PV) (as : List PV) (h : PH) : R PV := match o, as with
  | .ref n, [.bl b] => (match h[n]? with
    | some (.lst l) => (match boolsOf l with | some bs => .ok (.int ((bs.countP fun c => c == b : Nat))) h | none => .no)
    | _ => .no)
  | _, _ => .no
def mtPopAt (o : PV) (as : List PV) (h : PH) : R PV := match o, as with
  | .ref n, [.int i] => (match h[n]? with
    | some (.lst l) => if 0 ≤ i then (match l[i.toNat]? with | some v => .ok v (h.set n (.lst (l.eraseIdx i.toNat))) | none => .no) else .no
    | _ => .no)
  | _, _ => .no
def mtJoin (o : PV) (as : List PV) (h : PH) : R PV := match o, as with
  | .str sep, [a] => (match (listOf h a).bind strsOf with
    | some ys => if (ys.map (·.length)).sum + ys.length * sep.length ≤ 1000000 then .ok (.str (Txt.join sep ys)) h else .no
    | none => .no)
  | _, _ => .no
def mtGet1 (o : PV) (as : List PV) (h : PH) : R PV := match o, as with
  | .ref n, [k] => (match h[n]?, keyOf k with
    | some (.dct l), some k => .ok ((valP l k).getD .non) h
    | _, _ => .no)
  | _, _ => .no
def mtGet2 (o : PV) (as : List PV) (h : PH) : R PV := match o, as with
  | .ref n, [k, d] => (match h[n]?, keyOf k with
    | some (.dct l), some k => .ok ((valP l k).getD d) h
    | _, _ => .no)
  | _, _ => .no
def mtSetd (o : PV) (as : List PV) (h : PH) : R PV := match o, as with
  | .ref n, [k, d] => (match h[n]?, keyOf k with
    | some (.dct l), some k => if zaq (l.length + 1) then (match valP l k with | some v => .ok v h | none => .ok d (h.set n (.dct (putP l k d)))) else .no
    | _, _ => .no)
  | _, _ => .no
def mtClear (o : PV) (as : List PV) (h : PH) : R PV := match o, as with
  | .ref n, [] => (match h[n]? with
    | some (.lst _) => .ok .non (h.set n (.lst []))
    | _ => .no)
  | _, _ => .no
def mtInsert (o : PV) (as : List PV) (h : PH) : R PV := match o, as with
  | .ref n, [.int i, v] => (match h[n]? with
    | some (.lst l) => if zaq (l.length + 1) && decide (0 ≤ i) && decide (i < 2 ^ 62) then .ok .non (h.set n (.lst (l.take i.toNat ++ [v] ++ l.drop i.toNat))) else .no
    | _ => .no)
  | _, _ => .no
/-- xs.index(x), where it is there -/
def mtIndex (o : PV) (as : List PV) (h : PH) : R PV := match o, as with
  | .ref n, [v] => (match h[n]? with
    | some (.lst l) => (match pd h 8 v, mapO (pd h 8) l with
      | some d, some ds => (match ds.findIdx? fun z => PyData.eqv z d with | some j => .ok (.int (j : Nat)) h | none => .no)
      | _, _ => .no)
    | _ => .no)
  | _, _ => .no
def mtPop0 (o : PV) (as : List PV) (h : PH) : R PV := match o, as with
  | .ref n, [] => (match h[n]? with
    | some (.lst l) => (match l[l.length - 1]? with | some v => .ok v (h.set n (.lst l.dropLast)) | none => .no)
    | _ => .no)
  | _, _ => .no
/-- d.update(e), another dict -/
def mtUpdate (o : PV) (as : List PV) (h : PH) : R PV := match o, as with
  | .ref m, [.ref n] => (match h[m]?, h[n]? with
    | some (.dct l), some (.dct k) => if m ≠ n ∧ zaq (l.length + k.length) = true then .ok .non (h.set m (.dct (mergeP l k))) else .no
    | _, _ => .no)
  | _, _ => .no
/-- d.pop(k), k is there -/
def dropP (l : List (L2.Key × PV)) (k : L2.Key) : List (L2.Key × PV) := l.filter fun kv => !decide (kv.1 = k)
def mtPopK (o : PV) (as : List PV) (h : PH) : R PV := match o, as with
  | .ref n, [k] => (match h[n]?, keyOf k with
    | some (.dct l), some k => (match valP l k with | some v => .ok v (h.set n (.dct (dropP l k))) | none => .no)
    | _, _ => .no)
  | _, _ => .no
def mtReverse (o : PV) (as : List PV) (h : PH) : R PV := match o, as with
  | .ref n, [] => (match h[n]? with
    | some (.lst l) => .ok .non (h.set n (.lst l.reverse))
    | _ => .no)
  | _, _ => .no
def mtExtend (o : PV) (as : List PV) (h : PH) : R PV := match o, as with
  | .ref n, [.ref m] => (match h[n]?, h[m]? with
    | some (.lst l), some (.lst k) => if zaq (l.length + k.length) then .ok .non (h.set n (.lst (l ++ k))) else .no
    | _, _ => .no)
  | _, _ => .no
/-- xs.remove(x), where it is there -/
def mtRemove (o : PV) (as : List PV) (h : PH) : R PV := match o, as with
  | .ref n, [v] => (match h[n]? with
    | some (.lst l) => (match pd h 8 v, mapO (pd h 8) l with
      | some d, some ds => (match ds.findIdx? fun z => PyData.eqv z d with | some j => .ok .non (h.set n (.lst (l.eraseIdx j))) | none => .no)
      | _, _ => .no)
    | _ => .no)
  | _, _ => .no
def mtF : MT → PV → List PV → PH → R PV
  | .popK => mtPopK
  | .reverse => mtReverse
  | .extend => mtExtend
  | .remove => mtRemove
  | .count => mtCount
  | .append => mtAppend
  | .popAt => mtPopAt
  | .join => mtJoin
  | .get1 => mtGet1
  | .get2 => mtGet2
  | .setd => mtSetd
  | .clear => mtClear
  | .insert => mtInsert
  | .index => mtIndex
  | .pop0 => mtPop0
  | .update => mtUpdate
def sortKey : PV → Option (Int × Str)
  | .tup l => (match (l[4]? : Option PV), (l[0]? : Option PV) with | some (.int t), some (.str n) => some (t, n) | _, _ => none)
  | _ => none
def leTel (p q : Int × Str) : Bool := decide (q.1 < p.1) || (decide (p.1 = q.1) && leStr p.2 q.2)
def sortT (ks : List (Int × Str)) (l : List PV) : List PV := ((ks.zip l).mergeSort fun p q => leTel p.1 q.1).map (·.2)
def srtop (a : PV) (h : PH) : R PV := match seqOf h a with
  | some l => (match mapO sortKey l with
    | some ks => if decide ks.Nodup && decide (l.length ≤ 1000) then .ok (.ref h.length) (h ++ [.lst (sortT ks l)]) else .no
    | none => .no)
  | none => .no
/-- a row's key: what is read, brought to one bottom, then the name -/
def rowKey (w : Int) : PV → Option (Int × Str)
  | .tup [.str n, .tup [.int a, .int b]] => if divOk b && mulOk a (w.fdiv b) then some (-(a * w.fdiv b), n) else none
  | _ => none
def srtWop (w : Int) (a : PV) (h : PH) : R PV := match seqOf h a with
  | some l => (match mapO (rowKey w) l with
    | some ks => if decide ks.Nodup && decide (l.length ≤ 1000) then .ok (.ref h.length) (h ++ [.lst (sortT ks l)]) else .no
    | none => .no)
  | none => .no
def xatop (a : PV) (f c : Str) (h : PH) : R PV := match a with
  | .xc x ns vs => if x = c then ofO ((ns.zip vs).lookup f) h else .no
  | _ => .no
mutual
def coldV : PV → Bool
  | .xc _ _ _ => false
  | .tup l => coldVs l
  | .cl l => coldVs l
  | .exv _ _ l => coldVs l
  | _ => true
def coldVs : List PV → Bool
  | [] => true
  | p :: r => coldV p && coldVs r
end
def coldO : PO → Bool
  | .lst l => coldVs l
  | .dct l => coldVs (l.map (·.2))
  | .obj _ fs => coldVs (fs.map (·.2))
  | .dtp l => coldVs (l.map (·.2))
/-- is an exception of the class x caught by the class c? -/
def hitX (x c : Str) : Bool := decide (x = c) || decide (c = "BookError")
def fldop (c f : Str) (a : PV) (h : PH) : R PV := match a with
  | .ref n => (match h[n]? with
    | some (.obj c' fs) => if c' = c then ofO (fs.lookup f) h else .no
    | _ => .no)
  | _ => .no
/-- an instance of c that has no field m -/
def insB (c m : Str) (h : PH) : PV → Bool
  | .ref n => (match h[n]? with
    | some (.obj c' fs) => decide (c' = c) && (fs.lookup m).isNone
    | _ => false)
  | _ => false
def putO (f : Str) (v : PV) : List (Str × PV) → List (Str × PV)
  | [] => [(f, v)]
  | (g, x) :: r => if g = f then (g, v) :: r else (g, x) :: putO f v r
def setfld (c f : Str) (a v : PV) (h : PH) : Option PH := match a with
  | .ref n => (match h[n]? with
    | some (.obj c' fs) => if c' = c ∧ fs.length < 100 then some (h.set n (.obj c (putO f v fs))) else none
    | _ => none)
  | _ => none
/-- the first of these that is an instance of c -/
def isNew (v : PV) (n : Nat) (h : PH) : R PV := match v with
  | .non => .ok (.ref n) h
  | _ => .no
inductive ITK where
  | seq | range | zip | zip3 | zipT
  deriving DecidableEq
/-- a target: one name, names for a tuple's items, names and a starred one -/
inductive TgK where
  | one | tup | star | nest
  deriving DecidableEq
inductive E where
  | var (i : Nat)
  | lit (v : PV)
  | bin (op : Operator) (a b : E)
  | neg (a : E)
  | nt (a : E)
  | band (a b : E)
  | bor (a b : E)
  | cmp (op : CmpOp) (a b : E)
  | ite (t a b : E)
  | tup (es : List E)
  | lst (es : List E)
  | idx (a i : E)
  | slc (a : E) (lo hi : Option E)
  | call (f : Nat) (es : List E) (ds : List PV)
  /-- f(e, .., k = v, ..): ix puts the values in the parameters' order -/
  | callk (f : Nat) (es : List E) (ix : List Nat) (ds : List PV)
  | bi (b : BI) (es : List E)
  | mth (m : MT) (o : E) (es : List E)
  | srt (a : E)
  | srtW (a : E) (i : Nat)
  | dct (es : List E)
  | dcomp (k v : E) (tg : List Nat) (one : TgK) (kk : ITK) (its : List E) (cond : Option E) (own : List Nat)
  /-- {x[0] for x in xs} -/
  | firsts (j : Nat)
  /-- {scale: near if mark == far else mark for scale, mark in marks.items()} -/
  | remark (d near far : Nat)
  | comp (elt : E) (tg : List Nat) (one : TgK) (k : ITK) (its : List E) (cond : Option E) (own : List Nat)
  /-- [elt for tg in its for tg1 in its1] -/
  | comp2 (elt : E) (tg : List Nat) (one : TgK) (k : ITK) (its : List E) (tg1 : List Nat) (one1 : TgK) (k1 : ITK) (its1 : List E) (own : List Nat)
  /-- (a, b)[::s] -/
  | stp (a s : E)
  /-- xs[::-1] -/
  | rev (a : E)
  /-- a.f of an exception of the class c -/
  | xat (a : E) (f : Str) (c : Str)
  /-- a.f of an instance of c -/
  | fld (c f : Str) (a : E)
  /-- o.m(es..) of an instance of c; k: m's def -/
  | meth (c m : Str) (k : Nat) (o : E) (es : List E) (ds : List PV)
  /-- c(es..); k: its __init__ -/
  | make (c : Str) (k : Nat) (es : List E) (ds : List PV)
  /-- T[w](es..), T a table of defs -/
  | disp (tb : List (Str × Nat)) (w : E) (es : List E)
  /-- a op b op2 c -/
  | chain (op op2 : CmpOp) (a b c : E)
  /-- dict(x), x a constant of pairs -/
  | dctc (l : List (L2.Key × PV))
  /-- {} that is to be a dict by tuples; d[(..)] -/
  | dtp0
  | idxT (o : E) (ks : List E)
  /-- not a, a any thing -/
  | ntv (a : E)
  /-- a == b (ne: a != b) where a is an instance of c with an own __eq__ -/
  | oeq (c : Str) (k : Nat) (ne : Bool) (a b : E)
  /-- a == b of two dicts whose values are dicts of data -/
  | deq (a b : E)
  /-- isinstance(a, c), a an instance of the own class c -/
  | isc (c : Str) (a : E)
  /-- a or b, a any thing that has a truth -/
  | orv (a b : E)
inductive Tgt where
  | nm (i : Nat)
  | tup (is : List Nat)
  | unl (is : List Nat)
  | sub (o i : E)
  | fld (c f : Str) (o : E)
  /-- a, .., *b = a tuple -/
  | ust (is : List Nat)
  /-- o[i], o2[i2] = a tuple -/
  | sub2 (o i o2 i2 : E)
inductive S where
  | asg (g : Tgt) (e : E)
  | aug (i : Nat) (op : Operator) (e : E)
  | augs (o i : E) (op : Operator) (e : E)
  /-- o.f op= e -/
  | augf (c f : Str) (o : E) (op : Operator) (e : E)
  | ifs (t : E) (a b : List S)
  | whl (t : E) (b : List S)
  | fr (tg : List Nat) (one : TgK) (k : ITK) (its : List E) (b : List S)
  | ret (e : E)
  | ret0
  | ex (e : E)
  | pass
  | brk
  | cont
  /-- raise x(es..), the fields' names newest first -/
  | raise (x : Str) (ns : List Str) (es : List E)
  /-- try: b  except c: s; what b lets out is of xs -/
  | tryN (b : List S) (c : Str) (xs : List Str) (s : List S)
  /-- try: b  except c as e: if fi(e): j = (lit, e.f, ..) | j = (lit, e.f, .., fi(e)): i is e's slot, ns the fields' names, fs those that are read, ex what goes behind -/
  | tryA (b : List S) (c : Str) (xs : List Str) (fi i j : Nat) (lit : Str) (ns fs : List Str) (ex : List PV)
  /-- what is told nothing of -/
  | hole
  /-- o[(..)] = e -/
  | asgT (o : E) (ks : List E) (e : E)
  /-- try: b  except ..: hs are all .hd; what b lets out is of xs -/
  | tryH (b : List S) (xs : List Str) (hs : List S)
  /-- except c as i: b -/
  | hd (c : Str) (i : Option Nat) (b : List S)
structure Fn where
  np : Nat
  ns : Nat
  body : List S
abbrev Env := List (Option PV)
def Env.get (ρ : Env) (i : Nat) : Option PV := match ρ[i]? with | some (some v) => some v | _ => none
def wipeP (ρ : Env) : List Nat → Env
  | [] => ρ
  | i :: r => (wipeP ρ r).set i none
def setAll (ρ : Env) : List Nat → List PV → Option Env
  | [], [] => some ρ
  | i :: is, v :: vs => setAll (ρ.set i (some v)) is vs
  | _, _ => none
/-- a loop's target: one name, or names for a tuple's items -/
def zbp (ρ : Env) (is : List Nat) (one : TgK) (v : PV) : Option Env :=
  match one, is, v with
  | .one, [i], v => some (ρ.set i (some v))
  | .tup, is, .tup l => setAll ρ is l
  | .nest, i :: is, .tup [a, .tup l] => setAll (ρ.set i (some a)) is l
  | .star, is, .tup l => if is.length ≤ l.length + 1 ∧ l.length ≤ 1000 then (match is.getLast? with | some j => (setAll ρ is.dropLast (l.take (is.length - 1))).map fun ρ' => ρ'.set j none | none => none) else none
  | _, _, _ => none
/-- what a loop walks: its items, and what must stay as it is -/
def rangeP (n : Int) : List PV := (List.range n.toNat).map fun i => .int (i : Nat)
end Sb
namespace Sb
open PySem PySem.Spec PyProof.Rows L2
def lamNames : List Str := ["in_order", "_law_in_order", "pegs_of"]
def tabsOf (K : PySem.W.Frag) : List (Addr × Str) := lamNames.filterMap fun x => (PySem.W.tabIn K x).map fun p => (p.2, x ++ ".<locals>." ++ "<lambda>")
abbrev AlE : Type := He.AlD × Bool
def tabCs (K : PySem.W.Frag) : List (Addr × Addr) := lamNames.filterMap fun x => PySem.W.tabIn K x
def tabB (K : PySem.W.Frag) (xs : List Str) : Bool := decide ((tabsOf K).map (·.1)).Nodup && ((tabsOf K).all fun p => (K.lookup p.1).isNone) && (xs.all fun x => (PySem.W.tabIn K x).isSome) && lamNames.all fun x => xs.contains x || (PySem.W.tabIn K x).isNone
abbrev AlU : Type := AlE × List (Option (List (Option (Str × Int))))
def tbsU (ts : List (Str × List Str)) (K : PySem.W.Frag) : List (Option (List (Option (Str × Int)))) := ts.map fun t => He.dicW K (He.ga K t.1)
def keyU (ts : List (Str × List Str)) (w : World) : List (Option (List (Option (Str × Int)))) := ts.map fun t => some (He.keysIn w.params t.2)
/-- a class of the program, its fields; a method; its making -/
def clB (K : PySem.W.Frag) (c : Str) (fs : List Str) : Bool := PySem.W.plainGet K (He.ga K c) Str.empty && (PySem.W.hasDictIn K (He.ga K c) && (PySem.W.plainOver K (He.ga K c) && (He.eqO (PySem.W.findIn K (.ref (He.ga K c)) "__setattr__") (some (some (.builtin "object.__setattr__"))) &&
  fs.all fun f => He.eqO (PySem.W.findIn K (.ref (He.ga K c)) f) (some none))))
def meB (K : PySem.W.Frag) (c m : Str) : Bool := He.eqO (PySem.W.findIn K (.ref (He.ga K c)) m) (some (some (.ref (He.ma K (He.ga K c) m)))) && PySem.W.isFn K (.ref (He.ma K (He.ga K c) m))
def mkB (K : PySem.W.Frag) (c : Str) : Bool := PySem.W.makesIn K (He.ga K c) && (meB K c "__init__" && PySem.W.keepIn K (.ref (He.ga K c)))
end Sb
namespace Sb
open PySem PySem.Spec PyProof.Rows L2
/-- main's entries, in order: their names, where objects stand -/
def mainW : List DictEntry → List (Str × Option Addr) → Bool
  | [], [] => true
  | e :: es, p :: ml => e.key.isStr p.1 && ((match p.2, e.val with
    | some a, .ref b => Nat.beq a b
    | some _, _ => false
    | none, _ => true) && mainW es ml)
  | _, _ => false
def mainB (K : PySem.W.Frag) (ml : List (Str × Option Addr)) : Bool := match K.lookup mainGlobals with
  | some ⟨_, _, .dict es _, _⟩ => mainW es.toList ml
  | _ => false
theorem isStr_eq {v : Value} {x : Str} (h : v.isStr x = true) : ∃ t, v = .str x t := by
  cases v with
  | str s t =>
    have e : s = x := by
      have h1 : (s == x) = true := h
      exact beq_iff_eq.mp h1
    exact ⟨t, by rw [e]⟩
  | _ => cases h
theorem mainW_cons {e : DictEntry} {es : List DictEntry} {p : Str × Option Addr} {ml : List (Str × Option Addr)} (h : mainW (e :: es) (p :: ml) = true) : (∃ t, e.key = .str p.1 t) ∧ (∀ a, p.2 = some a → e.val = .ref a) ∧ mainW es ml = true := by
  unfold mainW at h
  obtain ⟨h1, h2⟩ := He.ba h
  obtain ⟨h3, h4⟩ := He.ba h2
  refine ⟨isStr_eq h1, fun a ea => ?_, h4⟩
  rw [ea] at h3
  cases ev : e.val with
  | ref b =>
    rw [ev] at h3
    rw [Nat.eq_of_beq_eq_true h3]
  | _ => rw [ev] at h3; cases h3
theorem mainW_find : ∀ {es : List DictEntry} {ml : List (Str × Option Addr)}, mainW es ml = true → ∀ x : Str,
    (match ml.find? (fun p => decide (p.1 = x)) with
      | none => es.find? (·.key.isStr x) = none ∧ es.any (·.refKey) = false
      | some (_, some a) => ∃ e, es.find? (·.key.isStr x) = some e ∧ e.val = .ref a
      | some (_, none) => True)
  | [], [], _, _ => ⟨rfl, rfl⟩
  | [], _ :: _, h, _ => by cases h
  | _ :: _, [], h, _ => by cases h
  | e :: es, p :: ml, h, x => by
    obtain ⟨⟨t, ek⟩, hv, hr⟩ := mainW_cons h
    have ih := mainW_find hr x
    have ks : e.key.isStr x = decide (p.1 = x) := by
      rw [ek]
      show (p.1 == x) = _
      rfl
    have rk : e.refKey = false := by
      unfold DictEntry.refKey
      rw [ek]
    rw [List.find?_cons, List.find?_cons, ks, List.any_cons, rk, Bool.false_or]
    by_cases hx : p.1 = x
    · simp only [hx, decide_true]
      obtain ⟨y, o⟩ := p
      cases o with
      | none => trivial
      | some a => exact ⟨e, rfl, hv a rfl⟩
    · simp only [hx, decide_false]
      exact ih
theorem mainB_ns {K : PySem.W.Frag} {ml : List (Str × Option Addr)} (h : mainB K ml = true) (x : Str) : (match ml.find? (fun p => decide (p.1 = x)) with
    | none => PySem.W.nsIn K mainGlobals x = some none
    | some (_, some a) => PySem.W.nsIn K mainGlobals x = some (some (.ref a))
    | some (_, none) => True) := by
  unfold mainB at h
  split at h
  · rename_i es n _ q
    have z := mainW_find h x
    have u : PySem.W.nsIn K mainGlobals x = (match es.toList.find? (·.key.isStr x) with
      | some e => some (some e.val)
      | none => if es.toList.any (·.refKey) then none else some none) := by
      unfold PySem.W.nsIn
      rw [q]
      rfl
    rw [u]
    split
    · rename_i e0
      rw [e0] at z
      simp only at z
      rw [z.1, z.2]
      rfl
    · rename_i y a e0
      rw [e0] at z
      obtain ⟨e, e1, e2⟩ := z
      rw [e1]
      show some (some e.val) = _
      rw [e2]
    · trivial
  · cases h
/-- what the list tells of a name -/
def atL (ml : List (Str × Option Addr)) (x : Str) : Option (Str × Option Addr) := ml.find? (fun p => decide (p.1 = x))
def faL (ml : List (Str × Option Addr)) : He.Fa → Bool
  | .glo x => (match atL ml x with
    | some (_, some _) => true
    | _ => false)
  | .free x => (match atL ml x with
    | none => true
    | _ => false)
  | _ => false
theorem ga_of {K : PySem.W.Frag} {x : Str} {a : Addr} (h : PySem.W.nsIn K mainGlobals x = some (some (.ref a))) : He.ga K x = a := by
  unfold He.ga
  rw [h]
theorem faL_ok {K : PySem.W.Frag} {ml : List (Str × Option Addr)} (h : mainB K ml = true) {f : He.Fa} (e : faL ml f = true) : f.ok K = true := by
  cases f with
  | glo x =>
    have z := mainB_ns h x
    have e1 : (match List.find? (fun p => decide (p.1 = x)) ml with
      | some (_, some _) => true
      | _ => false) = true := e
    cases e0 : List.find? (fun p => decide (p.1 = x)) ml with
    | none => rw [e0] at e1; cases e1
    | some q =>
      obtain ⟨y, o⟩ := q
      cases o with
      | none => rw [e0] at e1; cases e1
      | some a =>
        rw [e0] at z
        have z1 : PySem.W.nsIn K mainGlobals x = some (some (.ref a)) := z
        show He.eqO (PySem.W.nsIn K mainGlobals x) (some (some (.ref (He.ga K x)))) = true
        rw [ga_of z1, z1]
        exact decide_eq_true rfl
  | free x =>
    have z := mainB_ns h x
    have e1 : (match List.find? (fun p => decide (p.1 = x)) ml with
      | none => true
      | _ => false) = true := e
    cases e0 : List.find? (fun p => decide (p.1 = x)) ml with
    | none =>
      rw [e0] at z
      exact decide_eq_true z
    | some q => rw [e0] at e1; cases e1
  | _ => cases e
/-- a def at an address -/
def okA (K : PySem.W.Frag) (a : Addr) (d : He.DefD) : Bool := (match d.at_.2 with
    | none => true
    | some _ => Nat.beq (He.fAd K d.at_) a) && (PySem.W.keepIn K (.ref a) && (match K.lookup a with
  | some ⟨_, _, .func fd, _⟩ => PySem.W.codeIn K fd.code d.qual && (He.dflB K fd.defaults (d.dvs K) && He.kwdB K fd.kwdefaults (d.kws K))
  | _ => false))
def fnA (K : PySem.W.Frag) (a : Addr) : He.FnW := match K.lookup a with
  | some ⟨_, _, .func fd, _⟩ => some (fd.name, fd.qualname, fd.params, fd.body, fd.scope, fd.globals, fd.closure, fd.builtins)
  | _ => none
def fnL (ml : List (Str × Option Addr)) (a : Addr) (d : He.DefD) : Bool := match d.at_.2 with
  | some _ => true
  | none => (match atL ml d.at_.1 with
    | some (_, some b) => Nat.beq b a
    | _ => false)
theorem fAd_of {K : PySem.W.Frag} {ml : List (Str × Option Addr)} (h : mainB K ml = true) {a : Addr} {d : He.DefD} (e : fnL ml a d = true) (o : okA K a d = true) : He.fAd K d.at_ = a := by
  unfold okA at o
  have o1 := (He.ba o).1
  unfold fnL at e
  cases q : d.at_.2 with
  | some m =>
    rw [q] at o1
    exact Nat.eq_of_beq_eq_true o1
  | none =>
    have z := mainB_ns h d.at_.1
    rw [q] at e
    have e1 : (match List.find? (fun p => decide (p.1 = d.at_.1)) ml with
      | some (_, some b) => Nat.beq b a
      | _ => false) = true := e
    cases e0 : List.find? (fun p => decide (p.1 = d.at_.1)) ml with
    | none => rw [e0] at e1; cases e1
    | some r =>
      obtain ⟨y, o⟩ := r
      cases o with
      | none => rw [e0] at e1; cases e1
      | some b =>
        rw [e0] at z e1
        have z1 : PySem.W.nsIn K mainGlobals d.at_.1 = some (some (.ref b)) := z
        unfold He.fAd
        rw [q]
        show He.ga K d.at_.1 = a
        rw [ga_of z1]
        exact Nat.eq_of_beq_eq_true e1
theorem okA_ok {K : PySem.W.Frag} {a : Addr} {d : He.DefD} (e : He.fAd K d.at_ = a) (o : okA K a d = true) : d.ok K = true := by
  unfold okA at o
  have o2 := (He.ba o).2
  unfold He.DefD.ok
  rw [e]
  exact o2
theorem fnA_eq {K : PySem.W.Frag} {a : Addr} {d : He.DefD} (e : He.fAd K d.at_ = a) : He.fnW K d.at_ = fnA K a := by
  unfold He.fnW fnA
  rw [e]
  rfl
/-- the same, read off the heap at given addresses: the def's, its code's -/
theorem frG_lookup {g : Addr → Option Obj} {a : Addr} : ∀ {as : List Addr}, a ∈ as → (He.frG g as).lookup a = g a
  | [], h => nomatch h
  | b :: r, h => by
    unfold He.frG
    rw [List.filterMap_cons]
    cases hb : g b with
    | none =>
      rcases List.mem_cons.mp h with e | e
      · subst e
        cases q : (He.frG g r).lookup a with
        | none =>
          rw [hb]
          exact q
        | some o =>
          have := He.frG_at r q
          rw [hb] at this
          cases this
      · exact frG_lookup e
    | some o =>
      show (match a == b with | true => some o | false => (He.frG g r).lookup a) = g a
      cases q : (a == b) with
      | true =>
        rw [beq_iff_eq.mp q, hb]
      | false =>
        rcases List.mem_cons.mp h with e | e
        · rw [e, beq_self_eq_true] at q
          cases q
        · exact frG_lookup e
def okG (g : Addr → Option Obj) (K : PySem.W.Frag) (a c : Addr) (d : He.DefD) : Bool := (match d.at_.2 with
    | none => true
    | some _ => Nat.beq (He.fAd K d.at_) a) && (match g a with
  | some ⟨_, _, .func fd, _⟩ => (match fd.code with
    | .ref b => Nat.beq b c && (match g c with
      | some ⟨_, _, .fields vs, _⟩ => (match vs.toList with | _ :: .str n _ :: _ => n == d.qual | _ => false)
      | _ => false)
    | _ => false) && (He.dflB K fd.defaults (d.dvs K) && He.kwdB K fd.kwdefaults (d.kws K))
  | _ => false)
def fnG (g : Addr → Option Obj) (a : Addr) : He.FnW := match g a with
  | some ⟨_, _, .func fd, _⟩ => some (fd.name, fd.qualname, fd.params, fd.body, fd.scope, fd.globals, fd.closure, fd.builtins)
  | _ => none
theorem okG_okA {g : Addr → Option Obj} {as : List Addr} {a c : Addr} {d : He.DefD} (ha : a ∈ as) (hc : c ∈ as) (o : okG g (He.frG g as) a c d = true) : okA (He.frG g as) a d = true := by
  obtain ⟨o1, o2⟩ := He.ba o
  have la : (He.frG g as).lookup a = g a := frG_lookup ha
  have lc : (He.frG g as).lookup c = g c := frG_lookup hc
  split at o2
  · rename_i fd _ q
    obtain ⟨o3, o4⟩ := He.ba o2
    split at o3
    · rename_i b eb
      obtain ⟨o5, o6⟩ := He.ba o3
      have ebc : b = c := Nat.eq_of_beq_eq_true o5
      rw [ebc] at eb
      have cd : PySem.W.codeIn (He.frG g as) fd.code d.qual = true := by
        unfold PySem.W.codeIn
        rw [eb]
        simp only
        rw [lc]
        exact o6
      have kp : PySem.W.keepIn (He.frG g as) (.ref a) = true := by
        unfold PySem.W.keepIn
        simp only
        rw [la, q]
      unfold okA
      refine Bool.and_eq_true_iff.mpr ⟨o1, Bool.and_eq_true_iff.mpr ⟨kp, ?_⟩⟩
      rw [la, q]
      exact Bool.and_eq_true_iff.mpr ⟨cd, o4⟩
    · cases o3
  · cases o2
theorem fnG_eq {g : Addr → Option Obj} {as : List Addr} {a : Addr} (ha : a ∈ as) : fnA (He.frG g as) a = fnG g a := by
  unfold fnA fnG
  rw [frG_lookup ha]
abbrev FnT : Type := He.DefD × Addr × Addr
def sideL (as : List Addr) (ml : List (Str × Option Addr)) (fa : List He.Fa) (fns : List FnT) : Bool := fa.all (faL ml) && fns.all fun p => fnL ml p.2.1 p.1 && (as.contains p.2.1 && as.contains p.2.2)
theorem says_of {g : Addr → Option Obj} {as : List Addr} {ml : List (Str × Option Addr)} {fa : List He.Fa} {fns : List FnT} (c : sideL as ml fa fns = true) (h : mainB (He.frG g as) ml = true) (o : (fns.all fun p => okG g (He.frG g as) p.2.1 p.2.2 p.1) = true) (e : (fns.map fun p => fnG g p.2.1) = fns.map fun p => p.1.val) : He.SaysD fa (fns.map Prod.fst) (He.frG g as) := by
  obtain ⟨c1, c2⟩ := He.ba c
  have mm : ∀ p ∈ fns, p.2.1 ∈ as ∧ p.2.2 ∈ as := fun p hp => by
    obtain ⟨_, u⟩ := He.ba (List.all_eq_true.mp c2 p hp)
    obtain ⟨u1, u2⟩ := He.ba u
    exact ⟨List.contains_iff_mem.mp u1, List.contains_iff_mem.mp u2⟩
  have ok : ∀ p ∈ fns, okA (He.frG g as) p.2.1 p.1 = true := fun p hp => okG_okA (mm p hp).1 (mm p hp).2 (List.all_eq_true.mp o p hp)
  have ad : ∀ p ∈ fns, He.fAd (He.frG g as) p.1.at_ = p.2.1 := fun p hp => fAd_of h (He.ba (List.all_eq_true.mp c2 p hp)).1 (ok p hp)
  have a1 : (fa.all fun f => f.ok (He.frG g as)) = true := List.all_eq_true.mpr fun f hf => faL_ok h (List.all_eq_true.mp c1 f hf)
  have a2 : ((fns.map Prod.fst).all fun d => d.ok (He.frG g as)) = true := List.all_eq_true.mpr fun d hd => by
    obtain ⟨p, hp, rfl⟩ := List.mem_map.mp hd
    exact okA_ok (ad p hp) (ok p hp)
  have a3 : ((fns.map Prod.fst).map fun d => He.fnW (He.frG g as) d.at_) = (fns.map Prod.fst).map He.DefD.val := by
    rw [List.map_map, List.map_map]
    have e1 : fns.map ((fun d => He.fnW (He.frG g as) d.at_) ∘ Prod.fst) = fns.map fun p => fnG g p.2.1 := List.map_congr_left fun p hp => (fnA_eq (ad p hp)).trans (fnG_eq (mm p hp).1)
    rw [e1, e]
    rfl
  unfold He.SaysD He.obsD He.valD
  rw [a1, a2, a3]
  rfl
/-- the hook -/
def obsN (ml : List (Str × Option Addr)) (fns : List FnT) (ex : PySem.W.Frag → Bool) (ts : List (Str × List Str)) (g : Addr → Option Obj) (K : PySem.W.Frag) : AlU := (((mainB K ml && fns.all fun p => okG g K p.2.1 p.2.2 p.1, fns.map fun p => fnG g p.2.1), ex K), tbsU ts K)
def valN (fns : List FnT) (ts : List (Str × List Str)) (w : World) : AlU := (((true, fns.map fun p => p.1.val), true), keyU ts w)
def hookN (as : List Addr) (ml : List (Str × Option Addr)) (fa : List He.Fa) (fns : List FnT) (ex : PySem.W.Frag → Bool) (ts : List (Str × List Str)) (c : sideL as ml fa fns = true) : PySem.W.Hook where
  α := AlU
  obs := fun s => obsN ml fns ex ts s.heap.get? (He.frG s.heap.get? as)
  val := fun w => valN fns ts w
  says := fun w h => ∃ K : PySem.W.Frag, K.In h ∧ He.SaysD fa (fns.map Prod.fst) K ∧ ex K = true ∧ tbsU ts K = keyU ts w
  of := fun w s e => by
    have e' : obsN ml fns ex ts s.heap.get? (He.frG s.heap.get? as) = valN fns ts w := e
    obtain ⟨e1, e2⟩ := Prod.mk.inj e'
    obtain ⟨e3, e4⟩ := Prod.mk.inj e1
    obtain ⟨e5, e6⟩ := Prod.mk.inj e3
    obtain ⟨e7, e8⟩ := He.ba e5
    exact ⟨_, He.frG_in, says_of c e7 e8 e6, e4, e2⟩
  keeps := fun _ _ _ ⟨K, hK, c⟩ k => ⟨K, PySem.W.Frag.In.keeps hK k, c⟩
def obsNT (as : List Addr) (ml : List (Str × Option Addr)) (fns : List FnT) (ex : PySem.W.Frag → Bool) (ts : List (Str × List Str)) (s : PySem.W.SharedT) : AlU := obsN ml fns ex ts (HandSHeadRun.getT s) (He.frG (HandSHeadRun.getT s) as)
theorem obsNT_eq {as : List Addr} {ml : List (Str × Option Addr)} {fa : List He.Fa} {fns : List FnT} {ex : PySem.W.Frag → Bool} {ts : List (Str × List Str)} {c : sideL as ml fa fns = true} (s : PySem.W.SharedT) : obsNT as ml fns ex ts s = (hookN as ml fa fns ex ts c).obs s.abs := by
  have e : HandSHeadRun.getT s = s.abs.heap.get? := funext (HandSHeadRun.getT_eq s)
  unfold obsNT
  rw [e]
  rfl
def boundL (p : Program) (ml : List (Str × Option Addr)) : Bool := ml.all fun q => startupNames.contains q.1 || p.boundNames.contains q.1
theorem mainW_all : ∀ {es : List DictEntry} {ml : List (Str × Option Addr)}, mainW es ml = true → (es.all (fun e => match e.key with | .str _ _ => true | _ => false)) = true ∧ (es.filterMap fun e => match e.key with | .str n _ => some n | _ => none) = ml.map (·.1)
  | [], [], _ => ⟨rfl, rfl⟩
  | [], _ :: _, h => by cases h
  | _ :: _, [], h => by cases h
  | e :: es, p :: ml, h => by
    obtain ⟨⟨t, ek⟩, hv, hr⟩ := mainW_cons h
    obtain ⟨i1, i2⟩ := mainW_all hr
    refine ⟨?_, ?_⟩
    · rw [List.all_cons, i1, ek]
      rfl
    · rw [List.filterMap_cons, ek, List.map_cons, ← i2]
theorem bound_of {p : Program} {K : PySem.W.Frag} {h : Heap} (X : K.In h) {ml : List (Str × Option Addr)} (c : boundL p ml = true) (e : mainB K ml = true) : PySem.W.namesBound p h = true := by
  unfold mainB at e
  split at e
  · rename_i es n _ q
    obtain ⟨a1, a2⟩ := mainW_all e
    have hg := X _ _ q
    have b1 : h.isNs mainGlobals = true := by
      unfold Heap.isNs
      rw [hg]
      simp only
      rw [← Array.all_toList]
      exact a1
    have b2 : h.nsKeys mainGlobals = ml.map (·.1) := by
      unfold Heap.nsKeys
      rw [hg]
      exact a2
    unfold PySem.W.namesBound
    rw [b1, b2, Bool.true_and, List.all_map]
    exact c
  · cases e
theorem run_join {X : Option PySem.W.SharedT} {p : Program} {h0 : Heap} {as : List Addr} {ml : List (Str × Option Addr)} {fns : List FnT} {ex : PySem.W.Frag → Bool} {ts : List (Str × List Str)} {w : World} {γ : Type} {seen : PySem.W.SharedT → γ} {g : γ}
    (c : boundL p ml = true) (a : X.map (fun s => (PySem.W.staticsOk (importedModules p.main.body) h0 s.abs.heap && (PySem.W.gensDone s.abs && PySem.W.laidKept h0 s.abs.heap), obsNT as ml fns ex ts s)) = some (true, valN fns ts w))
    (b : X.map seen = some g) : X.map (fun s => (HandSHeadRun.looksF p h0 s.abs, seen s, obsNT as ml fns ex ts s)) = some (true, g, valN fns ts w) := by
  cases X with
  | none => cases a
  | some s =>
    have a1 := Option.some.inj a
    have b1 : seen s = g := Option.some.inj b
    obtain ⟨a2, a3⟩ := Prod.mk.inj a1
    obtain ⟨l1, l2⟩ := He.ba a2
    obtain ⟨l3, l4⟩ := He.ba l2
    have m : mainB (He.frG (HandSHeadRun.getT s) as) ml = true := by
      have e' : obsN ml fns ex ts (HandSHeadRun.getT s) (He.frG (HandSHeadRun.getT s) as) = valN fns ts w := a3
      obtain ⟨e1, e2⟩ := Prod.mk.inj e'
      obtain ⟨e3, e4⟩ := Prod.mk.inj e1
      obtain ⟨e5, e6⟩ := Prod.mk.inj e3
      exact (He.ba e5).1
    have nb : PySem.W.namesBound p s.abs.heap = true := by
      have e : HandSHeadRun.getT s = s.abs.heap.get? := funext (HandSHeadRun.getT_eq s)
      rw [e] at m
      exact bound_of He.frG_in c m
    have lk : HandSHeadRun.looksF p h0 s.abs = true := by
      unfold HandSHeadRun.looksF
      rw [l1, nb, l3, l4]
      rfl
    show some (HandSHeadRun.looksF p h0 s.abs, seen s, obsNT as ml fns ex ts s) = _
    rw [lk, b1, a3]
theorem run_join3 {X : Option PySem.W.SharedT} {p : Program} {h0 : Heap} {as : List Addr} {ml : List (Str × Option Addr)} {fns : List FnT} {ex : PySem.W.Frag → Bool} {ts : List (Str × List Str)} {w : World} {γ : Type} {seen : PySem.W.SharedT → γ} {g : γ}
    (c : boundL p ml = true) (a : X.map (fun s => (PySem.W.staticsOk (importedModules p.main.body) h0 s.abs.heap && (PySem.W.gensDone s.abs && PySem.W.laidKept h0 s.abs.heap), obsNT as ml fns (fun _ => true) ts s)) = some (true, valN fns ts w))
    (x : X.map (fun s => ex (He.frG (HandSHeadRun.getT s) as)) = some true) (b : X.map seen = some g) : X.map (fun s => (HandSHeadRun.looksF p h0 s.abs, seen s, obsNT as ml fns ex ts s)) = some (true, g, valN fns ts w) := by
  refine run_join c ?_ b
  cases X with
  | none => cases a
  | some s =>
    have x1 : ex (He.frG (HandSHeadRun.getT s) as) = true := Option.some.inj x
    rw [← a]
    show some (_, obsNT as ml fns ex ts s) = some (_, obsNT as ml fns (fun _ => true) ts s)
    unfold obsNT obsN
    rw [x1]
end Sb
namespace Sb
open PySem PySem.W PySem.Calls PyProof.Rows HandSHeadRun
/-- a piece is through: its flow -/
def end1 (t : Thread) : Option Flow := match t.stack with
  | [_] => (match t.cur with
    | .pure (.done f) => some f
    | _ => none)
  | _ => none
theorem end1_eq (t : Thread) : endAt 1 t = end1 t := by
  obtain ⟨cur, code, pos, stack⟩ := t
  unfold endAt end1
  cases stack with
  | nil => rfl
  | cons a r =>
    cases r with
    | nil => cases cur <;> first | rfl | (rename_i z; cases z <;> rfl)
    | cons b r =>
      have : ((a :: b :: r).length == 1) = false := by simp
      simp only [this]
section
variable (st : SharedT → Thread → Option (SharedT × Thread)) (n0 : Nat) (ann : Option Value)
/-- a piece, to its end -/
def segF : Nat → SharedT → Thread → Option (Flow × SharedT × Code × Pos)
  | 0, _, _ => none
  | m + 1, s, t => match end1 t with
    | some f => some (f, s, t.code, t.pos)
    | none => match stepOk n0 ann t with
      | false => none
      | true => match st s t with
        | some (s', t') => frS s' fun s' => segF m s' t'
        | none => none
/-- so many steps -/
def topF : Nat → SharedT → Thread → Option (SharedT × Thread)
  | 0, s, t => some (s, t)
  | m + 1, s, t => match through t with
    | true => none
    | false => match stepOk n0 ann t with
      | false => none
      | true => match st s t with
        | some (s', t') => frS s' fun s' => topF m s' t'
        | none => none
end
theorem segF_ok {tb : String → Option Builtin} {p : Program} {w : World} {n0 : Nat} {ann : Option Value} : ∀ {m : Nat} {s s' : SharedT} {t : Thread} {f : Flow} {c : Code} {q : Pos}, segF (stepT (denote tb) p w) n0 ann m s t = some (f, s', c, q) → segRun tb p w n0 ann 1 m s.abs t = some (f, s'.abs, c, q)
  | 0, _, _, _, _, _, _, h => by cases h
  | m + 1, s, s', t, f, c, q, h => by
    have h1 : (match end1 t with
      | some f => some (f, s, t.code, t.pos)
      | none => match stepOk n0 ann t with
        | false => none
        | true => match stepT (denote tb) p w s t with
          | some (s', t') => frS s' fun s' => segF (stepT (denote tb) p w) n0 ann m s' t'
          | none => none) = some (f, s', c, q) := h
    unfold segRun
    rw [end1_eq]
    cases ht : end1 t with
    | some g =>
      rw [ht] at h1
      cases h1
      rfl
    | none =>
      rw [ht] at h1
      cases hk : stepOk n0 ann t with
      | false =>
        rw [hk] at h1
        cases h1
      | true =>
        rw [hk] at h1
        have h2 : (match stepT (denote tb) p w s t with
          | some (s', t') => frS s' fun s' => segF (stepT (denote tb) p w) n0 ann m s' t'
          | none => none) = some (f, s', c, q) := h1
        cases hs : stepT (denote tb) p w s t with
        | none =>
          rw [hs] at h2
          cases h2
        | some r =>
          obtain ⟨s2, t2⟩ := r
          rw [hs] at h2
          have h3 : (frS s2 fun s' => segF (stepT (denote tb) p w) n0 ann m s' t2) = some (f, s', c, q) := h2
          rw [frS_eq] at h3
          have z := segF_ok h3
          show (match step (denote tb) p w s.abs t with
            | .go s' t' => segRun tb p w n0 ann 1 m s' t'
            | .halt _ _ => none) = some (f, s'.abs, c, q)
          rw [stepT_spec hs]
          exact z
theorem topF_ok {tb : String → Option Builtin} {p : Program} {w : World} {n0 : Nat} {ann : Option Value} : ∀ {m : Nat} {s s' : SharedT} {t t' : Thread}, topF (stepT (denote tb) p w) n0 ann m s t = some (s', t') → topGo tb p w n0 ann m s.abs t = some (s'.abs, t')
  | 0, s, s', t, t', h => by
    cases h
    rfl
  | m + 1, s, s', t, t', h => by
    have h1 : (match through t with
      | true => none
      | false => match stepOk n0 ann t with
        | false => none
        | true => match stepT (denote tb) p w s t with
          | some (s', t') => frS s' fun s' => topF (stepT (denote tb) p w) n0 ann m s' t'
          | none => none) = some (s', t') := h
    unfold topGo
    cases ht : through t with
    | true => rw [ht] at h1; cases h1
    | false =>
      rw [ht] at h1
      cases hk : stepOk n0 ann t with
      | false => rw [hk] at h1; cases h1
      | true =>
        rw [hk] at h1
        have h2 : (match stepT (denote tb) p w s t with
          | some (s', t') => frS s' fun s' => topF (stepT (denote tb) p w) n0 ann m s' t'
          | none => none) = some (s', t') := h1
        cases hs : stepT (denote tb) p w s t with
        | none => rw [hs] at h2; cases h2
        | some r =>
          obtain ⟨s2, t2⟩ := r
          rw [hs] at h2
          have h3 : (frS s2 fun s' => topF (stepT (denote tb) p w) n0 ann m s' t2) = some (s', t') := h2
          rw [frS_eq] at h3
          have z := topF_ok h3
          show (match step (denote tb) p w s.abs t with
            | .go s' t' => topGo tb p w n0 ann m s' t'
            | .halt _ _ => none) = some (s'.abs, t')
          rw [stepT_spec hs]
          exact z
/-- one piece more -/
theorem piece_more {tb : String → Option Builtin} {p : Program} {w : World} {n0 : Nat} {ann : Option Value} {env : PySem.Env} {q : Pos} {b : List Stmt} {i j m N : Nat} {s s' : SharedT} {r : Shared} {c : Code} {p1 p2 : Pos}
    (h : segF (stepT (denote tb) p w) n0 ann m s (piecesOf ((b.drop i).take j) env c p1 [topFrame q]) = some (.next, s', c, p2))
    (k : topRun tb p w n0 ann N s'.abs (restOf (b.drop (i + j)) env c p2 [topFrame q]) = some r) : topRun tb p w n0 ann (m + N) s.abs (restOf (b.drop i) env c p1 [topFrame q]) = some r := by
  have e : b.drop i = (b.drop i).take j ++ b.drop (i + j) := by
    rw [← List.drop_drop, List.take_append_drop]
  rw [e]
  exact piece_app (segF_ok h) k
/-- the rows of the boot: its tree -/
theorem boot_abs {w : World} {os : OsState} {t : PySem.W.BT} {n : Nat} (e : putAll (boot_heap w.params).objs.toList .nil 0 = some (t, n)) : (bootT w os (t, n)).abs = ⟨boot_heap w.params, #[], boot_drawn, boot_toks, os⟩ ∧ (boot_heap w.params).objs.size = n := by
  have eh := putAll_heap e
  refine ⟨?_, ?_⟩
  · show (⟨absHeap t n (boot_heap w.params).life, #[], boot_drawn, boot_toks, os⟩ : Shared) = _
    rw [eh]
  · rw [← eh]
    exact absHeap_size t n _
/-- what the head's end tells, by a written state -/
def RunS (r : OpenRow) (q : Program) (H : Hook) (ob : SharedT → H.α) (loose : List PySem.Str) (S : World → OsState → SharedT) (w : World) : Prop :=
  ∀ os : OsState, (some (S w os)).map (fun s => (looksF r.prog (boot_heap w.params) s.abs, seenQ q loose (importedModules r.prog.main.body) (fun s => xlAt q [] s && recOk r.toRowW.records s) s.abs, ob s)) = some (true, openGood q loose, H.val w)
def TopS (p : Program) (M : Nat) (S : World → OsState → SharedT) (w : World) : Prop :=
  ∀ os : OsState, topRun treeTable p w (boot_heap w.params).objs.size (bootAnn w) M ⟨boot_heap w.params, #[], boot_drawn, boot_toks, os⟩ (topStub p) = some (S w os).abs
theorem left_top {p q : Program} {loose : List Str} {Xt : Shared → Bool} {α : Type} {Yf : Shared → α} {Ya : World → α} {N M : Nat} {S : World → OsState → SharedT}
    (e : opening p = plainProg p.main.scope.names) (hN : Nat.ble 600 N = true) (f : ∀ s, fenceModules? p s = some s) (le : Nat.ble M N = true) (top : ∀ w, TopS p M S w)
    (run : ∀ (w : World) (os : OsState), (some (S w os)).map (fun s => (looksF p (boot_heap w.params) s.abs, openSeen q loose (importedModules p.main.body) Xt true s.abs, Yf s.abs)) = some (true, openGood q loose, Ya w)) :
    LeftO p q loose Xt Yf Ya N true := fun w => by
  obtain ⟨⟨h, gs, d, k, os⟩, a, a'⟩ := Option.map_eq_some_iff.mp (boot_open e hN f w)
  obtain ⟨rfl, rfl, rfl, rfl⟩ : h = boot_heap w.params ∧ gs = Array.mk [] ∧ d = boot_drawn ∧ k = boot_toks := by simpa using a'
  obtain ⟨s, hs, hv⟩ := Option.map_eq_some_iff.mp (run w os)
  cases hs
  obtain ⟨l1, l2, l3⟩ : _ ∧ _ ∧ _ := by simpa only [Prod.mk.injEq] using hv
  have r := topRun_mono (N - M) _ _ _ _ (top w os)
  rw [show M + (N - M) = N by have := Nat.le_of_ble_eq_true le; omega] at r
  have l1' : (staticsOk (importedModules p.main.body) (boot_heap w.params) (S w os).abs.heap && namesBound p (S w os).abs.heap && gensDone (S w os).abs && laidKept (boot_heap w.params) (S w os).abs.heap) = true := l1
  have t : topFrom treeTable p w N ⟨boot_heap w.params, Array.mk [], boot_drawn, boot_toks, os⟩ = some (S w os).abs := by
    unfold topFrom
    dsimp only
    rw [boot_ns]
    show (topRun treeTable p w (boot_heap w.params).objs.size (bootAnn w) N ⟨boot_heap w.params, #[], boot_drawn, boot_toks, os⟩ (topStub p)).bind _ = _
    rw [r]
    show (match staticsOk (importedModules p.main.body) (boot_heap w.params) (S w os).abs.heap && namesBound p (S w os).abs.heap && gensDone (S w os).abs && laidKept (boot_heap w.params) (S w os).abs.heap with | true => some (S w os).abs | false => none) = _
    rw [l1']
  unfold openEnds
  rw [a]
  show (topFrom treeTable p w N _).map _ = _
  rw [t]
  exact congrArg some (Prod.ext l2 l3)
theorem head_top {r : OpenRow} {q : Program} {H : Hook} {ob : SharedT → H.α} {M : Nat} {S : World → OsState → SharedT} {loose : List PySem.Str} {d : DefRec} {kwd : List (PySem.Str × PySem.Expr)} (ho : ∀ s : SharedT, ob s = H.obs s.abs)
    (e : opening r.prog = plainProg r.prog.main.scope.names) (f : ∀ s, fenceModules? r.prog s = some s) (top : ∀ w, TopS r.prog M S w) (run : ∀ w, RunS r q H ob loose S w)
    (hdef : defOf q r.name = some (d, kwd)) (hp : r.prog.theDef r.name = some (d.params, d.body, d.scope)) (hk : kwWritten? d.params.kwonlyargs d.params.kw_defaults = some kwd)
    (hwr : (!r.writes || r.records.isEmpty) = true) (k1 : r.wellSaid = true) (ok : (chainsOk q && opensWell r.prog && (frees r.toRowW && r.within.isEmpty)) = true) (hb : r.prog.bare) (hw : r.toRowW.promised)
    (call : WalkO q loose (XL q []) H.says r.toRowW d kwd fun f vs => PySem.call f vs) : r.Holds := by
  have left : LeftO r.prog q loose (fun s => xlAt q [] s && recOk r.toRowW.records s) H.obs H.val (M + 600) true :=
    left_top (M := M) (S := S) e (Nat.ble_eq_true_of_le (by omega)) f (Nat.ble_eq_true_of_le (by omega)) top fun w os => by
      have z := run w os
      have eo : ob = fun s => H.obs s.abs := funext ho
      rw [eo] at z
      simp only [seenQ_eq]
      exact z
  exact holds_open (r := r) (q := q) (loose := loose) (XP := XL q []) (YP := H.says) (d := d) (kwd := kwd) left H.of H.keeps (fun s z => xl_of s (Bool.and_eq_true_iff.mp z).1) XL.keeps hdef hp hk (fun s z => recFacts_of (Bool.and_eq_true_iff.mp z).2) hwr k1 ok hb hw call
def oT (l : List Value) : Obj := ⟨.type "tuple", none, .seq ⟨l⟩ 0, ⟨[]⟩⟩
def oF (l : List Value) : Obj := ⟨.none, none, .fields ⟨l⟩, ⟨[]⟩⟩
def dE (P : Params) (x : Str) (t : Tok) (v : Value) : DictEntry := ⟨PyData.keyHash P x, .str x t, v⟩
def atObj (ls : List (List Obj)) (i : Nat) : Obj := (ls.getD (i / 32) []).getD (i % 32) default
def putT : PySem.W.BT → Nat → Obj → PySem.W.BT
  | .nil, _, _ => .nil
  | .node v l r, i, o => match Nat.beq i 0 with
    | true => .node o l r
    | false => match Nat.beq (i % 2) 1 with
      | true => .node v (putT l (i / 2) o) r
      | false => .node v l (putT r (i / 2 - 1) o)
def ovT : List (Nat × Obj) → PySem.W.BT → PySem.W.BT
  | [], t => t
  | (j, x) :: r, t => ovT r (putT t j x)
/-- the tree of objects -/
def trF (f : Nat → Obj) (n : Nat) : Nat → Nat → Nat → PySem.W.BT
  | 0, _, _ => .nil
  | k + 1, a, b => match Nat.blt b n with
    | true => .node (f b) (trF f n k (2 * a) (a + b)) (trF f n k (2 * a) (2 * a + b))
    | false => .nil
def fArgs : Stmt → Arguments
  | .FunctionDef _ a _ _ _ _ _ _ _ _ => a
  | _ => ⟨[], [], none, [], [], none, []⟩
def fBody : Stmt → List Stmt
  | .FunctionDef _ _ b _ _ _ _ _ _ _ => b
  | _ => []
def fScope : Stmt → Scope
  | .FunctionDef _ _ _ _ _ _ s _ _ _ => s
  | _ => ⟨.function, [], false, false, []⟩
/-- a def's data -/
def fD (s : Stmt) (name qual : Str) (gl : Addr) (df kw doc mod code : Value) (bi : Addr) : Data := .func ⟨name, qual, fArgs s, .stmts (fBody s), fScope s, gl, [], df, kw, doc, mod, none, code, .none, bi⟩
noncomputable def execQ : List Stmt → PySem.Env → Sem Flow := PySem.W.Fast.tw12563942051412417395
theorem exec_Q : @PySem.execs = execQ := PySem.W.Fast.te12563942051412417395
noncomputable def blockQ : List Stmt → PySem.Env → Sem Unit := PySem.W.Fast.tw1066825118222455980
theorem block_Q : @PySem.blockStart = blockQ := PySem.W.Fast.te1066825118222455980
theorem stepT_Q (p : Program) (w : World) : PySem.W.stepT (denote treeTable) p w = stepQ (denQ tabQ) p w := by rw [stepQ_eq, denQ_eq, tabQ_eq]
theorem den_Q : denote treeTable = denQ tabQ := by rw [denQ_eq, tabQ_eq]
def stA (p : Program) (i : Nat) : Stmt := p.main.body.getD i (.Pass ⟨0, 0, 0, 0⟩)
def stM (p : Program) (i j : Nat) : Stmt := match stA p i with
  | .ClassDef _ _ _ b _ _ _ _ _ _ _ => b.getD j (.Pass ⟨0, 0, 0, 0⟩)
  | s => s
end Sb
namespace Sb
open PySem PySem.Spec L2
def ownB (K : PySem.W.Frag) (c : Str) : Bool := He.eqO (PySem.W.findIn K (.ref (He.ga K c)) "__class__") (some (some (.builtin "object.__class__"))) && (He.eqO (PySem.W.specialIn K (.builtin "object.__class__") "__get__") (some (some (.builtin "getset_descriptor.__get__"))) &&
  (decide (PySem.W.takesIn K (.builtin "object.__class__") = some true) && (decide (PySem.W.mroIn K (He.ga K c) (.type "object") = some true) && decide (PySem.W.kitOne K (.ref (He.ga K c)) (.ref (He.ga K c)) = some true))))
def tysAll : List Ty := [.none, .bool, .int, .str, .tuple, .list, .dict, .set]
/-- what is asked of an own class with an own ==: no built-in type goes first, object's != -/
def owB (K : PySem.W.Frag) (c : Str) : Bool := (tysAll.all fun t => PySem.W.notFirst K (He.ga K c) (.type t.nm) && decide (PySem.W.kitOne K (.type t.nm) (.ref (He.ga K c)) = some false)) && (ownB K c && He.eqO (PySem.W.findIn K (.ref (He.ga K c)) "__ne__") (some (some (.builtin "object.__ne__"))))
end Sb
set_option maxHeartbeats 0
namespace Sb
open PySem PySem.Spec L2
def topS (i : Nat) : Stmt := PySem.Challenge.pw_scalebook_k58_news_objects.main.body.getD i (.Pass ⟨0, 0, 0, 0⟩)
abbrev zar : Stmt := topS 1
abbrev za7 : Stmt := topS 2
abbrev za8 : Stmt := topS 5
abbrev zas : Stmt := topS 7
abbrev zbl : Stmt := topS 8
abbrev s__law_mix : Stmt := topS 9
abbrev za9 : Stmt := topS 10
abbrev za2 : Stmt := topS 11
abbrev zbk : Stmt := topS 12
abbrev zat : Stmt := topS 13
abbrev za1 : Stmt := topS 14
abbrev za0 : Stmt := topS 15
abbrev zba : Stmt := topS 16
abbrev s_law : Stmt := topS 17
abbrev zbm : Stmt := (match topS 4 with | .ClassDef _ _ _ b .. => b | _ => []).getD 0 (.Pass ⟨0, 0, 0, 0⟩)
abbrev s_News_eq : Stmt := (match topS 4 with | .ClassDef _ _ _ b .. => b | _ => []).getD 1 (.Pass ⟨0, 0, 0, 0⟩)
abbrev s_News_len : Stmt := (match topS 4 with | .ClassDef _ _ _ b .. => b | _ => []).getD 2 (.Pass ⟨0, 0, 0, 0⟩)
abbrev za4 : Stmt := (match topS 4 with | .ClassDef _ _ _ b .. => b | _ => []).getD 3 (.Pass ⟨0, 0, 0, 0⟩)
def hfa : List He.Fa := [.glo "number_written", .glo "move_text", .glo "heard_text", .glo "_law_start", .glo "_law_draw", .glo "_law_mix", .glo "_law_same", .glo "_law_lowest", .glo "_law_part", .glo "_law_lists", .glo "_law_number", .glo "_law_text", .glo "_law_bent", .glo "law", .glo "News", .free "abs", .free "all", .free "bool", .free "int", .free "isinstance", .free "len", .free "list", .free "range", .free "str", .free "sum", .free "tuple", .free "zip", .glo "News"]
def d_number_written : He.DefD := ⟨("number_written", none), "number_written", "number_written", defArgs zar, defBody zar, defScope zar, [], []⟩
def d_move_text : He.DefD := ⟨("move_text", none), "move_text", "move_text", defArgs za7, defBody za7, defScope za7, [], []⟩
def d_heard_text : He.DefD := ⟨("heard_text", none), "heard_text", "heard_text", defArgs za8, defBody za8, defScope za8, [], []⟩
def d__law_start : He.DefD := ⟨("_law_start", none), "_law_start", "_law_start", defArgs zas, defBody zas, defScope zas, [], []⟩
def d__law_draw : He.DefD := ⟨("_law_draw", none), "_law_draw", "_law_draw", defArgs zbl, defBody zbl, defScope zbl, [], []⟩
def d__law_mix : He.DefD := ⟨("_law_mix", none), "_law_mix", "_law_mix", defArgs s__law_mix, defBody s__law_mix, defScope s__law_mix, [], []⟩
def d__law_same : He.DefD := ⟨("_law_same", none), "_law_same", "_law_same", defArgs za9, defBody za9, defScope za9, [], []⟩
def d__law_lowest : He.DefD := ⟨("_law_lowest", none), "_law_lowest", "_law_lowest", defArgs za2, defBody za2, defScope za2, [], []⟩
def d__law_part : He.DefD := ⟨("_law_part", none), "_law_part", "_law_part", defArgs zbk, defBody zbk, defScope zbk, [], []⟩
def d__law_lists : He.DefD := ⟨("_law_lists", none), "_law_lists", "_law_lists", defArgs zat, defBody zat, defScope zat, [], []⟩
def d__law_number : He.DefD := ⟨("_law_number", none), "_law_number", "_law_number", defArgs za1, defBody za1, defScope za1, [], []⟩
def d__law_text : He.DefD := ⟨("_law_text", none), "_law_text", "_law_text", defArgs za0, defBody za0, defScope za0, [], []⟩
def d__law_bent : He.DefD := ⟨("_law_bent", none), "_law_bent", "_law_bent", defArgs zba, defBody zba, defScope zba, [], []⟩
def d_law : He.DefD := ⟨("law", none), "law", "law", defArgs s_law, defBody s_law, defScope s_law, [], []⟩
def d_News_init : He.DefD := ⟨("News", some "__init__"), "__init__", "News.__init__", defArgs zbm, defBody zbm, defScope zbm, [], []⟩
def d_News_eq : He.DefD := ⟨("News", some "__eq__"), "__eq__", "News.__eq__", defArgs s_News_eq, defBody s_News_eq, defScope s_News_eq, [], []⟩
def d_News_len : He.DefD := ⟨("News", some "__len__"), "__len__", "News.__len__", defArgs s_News_len, defBody s_News_len, defScope s_News_len, [], []⟩
def d_News_str : He.DefD := ⟨("News", some "__str__"), "__str__", "News.__str__", defArgs za4, defBody za4, defScope za4, [], []⟩
def hfn : List He.DefD := [d_number_written, d_move_text, d_heard_text, d__law_start, d__law_draw, d__law_mix, d__law_same, d__law_lowest, d__law_part, d__law_lists, d__law_number, d__law_text, d__law_bent, d_law, d_News_init, d_News_eq, d_News_len, d_News_str]
def hex (K : PySem.W.Frag) : Bool := tabB K [] && clB K "News" ["came", "went", "heard"] && mkB K "News" && meB K "News" "__eq__" && meB K "News" "__len__" && meB K "News" "__str__" && owB K "News"
abbrev Rr : PySem.W.OpenRow := PySem.W.OpenLaw.row PySem.Challenge.rw_scalebook_k58_news_objects
def loose : List PySem.Str := [("number_written" : PySem.Str), ("move_text" : PySem.Str), ("News" : PySem.Str), ("heard_text" : PySem.Str), ("_law_start" : PySem.Str), ("_law_draw" : PySem.Str), ("_law_mix" : PySem.Str), ("_law_same" : PySem.Str), ("_law_lowest" : PySem.Str), ("_law_part" : PySem.Str), ("_law_lists" : PySem.Str), ("_law_number" : PySem.Str), ("_law_text" : PySem.Str), ("_law_bent" : PySem.Str)]
def hts : List (Str × List Str) := []
end Sb
namespace Sb
open PySem PySem.W PySem.Calls PyProof.Rows HandSHeadRun
noncomputable section
def oC (a b : Str) (n : Tok) (l c d e f : Int) (v : Value) (x : Bool) (r p q u w : Value) (i j : Tok) : Obj := ⟨.type "code", none, .fields ⟨[.str a n, .str b (n + 1), .str "/claim/cut.py" (n + 2), .int l 0, .int c 0, .int d 0, .int e 0, .int f 0, v, .bool x, .int 181 0, r, p, q, u, w, .int i 0, .int j 0, .str "/claim/cut.py" (i + 1)]⟩, ⟨[]⟩⟩
def fN (s : Stmt) (name qual : Str) (gl : Addr) (df kw doc mod code : Value) (bi : Addr) : Obj := ⟨.type "function", none, fD s name qual gl df kw doc mod code bi, ⟨[]⟩⟩
def fO (s : Stmt) (name qual : Str) (gl : Addr) (df kw doc mod code : Value) (bi : Addr) : Obj := ⟨.none, none, fD s name qual gl df kw doc mod code bi, ⟨[]⟩⟩
def oD (l : List DictEntry) (n : Nat) : Obj := ⟨.type "dict", none, .dict ⟨l⟩ n, ⟨[]⟩⟩
def oB (l : List Value) : Obj := ⟨.type "builtin_function_or_method", none, .fields ⟨l⟩, ⟨[]⟩⟩
def oR (l : List (Option Value)) : Obj := ⟨.type "frame", none, .plain, ⟨l⟩⟩
def oL (l : List (Int × Int × Addr)) : Obj := oF (l.flatMap fun p => [.int p.1 0, .int p.2.1 0, .ref p.2.2])
def ob_0 (P : Params) : List Obj := [PySem.W.boot_o_0 P,
  PySem.W.boot_o_1 P,
  PySem.W.boot_o_2 P,
  oD [dE P "__name__" 165 (.str "law_scalebook_k58_news_objects" 269), dE P "__doc__" 166 .none, dE P "__package__" 167 .none, dE P "__loader__" 168 (.builtin "__main__.__loader__#opaque"), dE P "__spec__" 169 .none, dE P "__annotations__" 170 (.ref 6), dE P "__builtins__" 171 (.ref 4), dE P "__file__" 173 (.str "/claim/cut.py" 172), dE P "__cached__" 174 .none, dE P "number_written" 197 (.ref 21), dE P "move_text" 203 (.ref 26), dE P "News" 260 (.ref 62), dE P "heard_text" 268 (.ref 73), dE P "_law_start" 276 (.ref 78), dE P "_law_draw" 286 (.ref 85), dE P "_law_mix" 296 (.ref 92), dE P "_law_same" 302 (.ref 97), dE P "_law_lowest" 312 (.ref 104), dE P "_law_part" 320 (.ref 111), dE P "_law_lists" 326 (.ref 116), dE P "_law_number" 333 (.ref 123), dE P "_law_text" 339 (.ref 128), dE P "_law_bent" 345 (.ref 133), dE P "law" 351 (.ref 138)] 24,
  PySem.W.boot_o_4 P,
  PySem.W.boot_o_5 P,
  PySem.W.boot_o_6 P,
  PySem.W.boot_o_7 P,
  PySem.W.boot_o_8 P,
  PySem.W.boot_o_9 P,
  PySem.W.boot_o_10 P,
  oT [],
  oL [(2, 0, 20), (5, 0, 25), (8, 0, 32), (26, 0, 72), (29, 0, 77), (32, 0, 84), (45, 0, 91), (53, 0, 96), (65, 0, 103), (73, 0, 110), (76, 0, 115), (85, 0, 122), (87, 0, 127), (92, 0, 132), (107, 0, 137)],
  oC "<module>" "<module>" 182 1 0 0 0 0 (.ref 11) false (.ref 12) .none .none .none .none 185 1,
  oR [some (.ref 13), some (.ref 3), some (.ref 3), none, some (.str "__main__" 164), none, some (.ref 0)],
  oT [],
  oF [],
  oT [.str "fraction" 192, .str "top" 193, .str "bottom" 194],
  oT [],
  fO (stA Rr.prog 1) "number_written" "number_written" 0 .none .none .none .none .none 0,
  oC "number_written" "number_written" 189 2 1 0 0 3 (.ref 15) true (.ref 16) .none (.ref 17) (.ref 18) (.ref 19) 195 2,
  fN (stA Rr.prog 1) "number_written" "number_written" 3 .none .none .none (.str "scalebook.written" 187) (.ref 20) 0,
  oT [],
  oF [],
  fO (stA Rr.prog 2) "move_text" "move_text" 0 .none .none .none .none .none 0,
  oC "move_text" "move_text" 198 5 2 0 0 3 (.ref 22) true (.ref 23) .none .none .none (.ref 24) 201 5,
  fN (stA Rr.prog 2) "move_text" "move_text" 3 .none .none .none (.str "scalebook.written" 187) (.ref 25) 0,
  oT [],
  oB [.builtin "type.__prepare__", .type "type"],
  oD [dE P "__module__" 213 (.str "scalebook.news" 204), dE P "__qualname__" 215 (.str "News" 214), dE P "__firstlineno__" 217 (.int 8 216), dE P "__init__" 227 (.ref 40), dE P "__eq__" 235 (.ref 47), dE P "__len__" 242 (.ref 54), dE P "__str__" 248 (.ref 59), dE P "__static_attributes__" 252 (.ref 60)] 8,
  oT [],
  oL [(10, 4, 39), (15, 4, 46), (20, 4, 53), (23, 4, 58)]]
def ob_1 (P : Params) : List Obj := [oC "News" "News" 208 8 0 0 0 0 (.ref 30) false (.ref 31) .none .none .none .none 211 8,
  oR [some (.ref 32), some (.ref 3), some (.ref 29), none, some (.str "scalebook.news" 204), none, some (.ref 0)],
  oT [],
  oF [],
  oT [.str "self" 221, .str "came" 222, .str "went" 223, .str "heard" 224],
  oT [],
  fO (stM Rr.prog 4 0) "__init__" "News.__init__" 0 .none .none .none .none .none 0,
  oC "__init__" "News.__init__" 218 10 4 0 0 3 (.ref 34) true (.ref 35) .none (.ref 36) (.ref 37) (.ref 38) 225 10,
  fN (stM Rr.prog 4 0) "__init__" "News.__init__" 3 .none .none .none (.str "scalebook.news" 204) (.ref 39) 0,
  oT [],
  oF [],
  oT [.str "self" 231, .str "other" 232],
  oT [],
  fO (stM Rr.prog 4 1) "__eq__" "News.__eq__" 0 .none .none .none .none .none 0,
  oC "__eq__" "News.__eq__" 228 15 2 0 0 3 (.ref 41) true (.ref 42) .none (.ref 43) (.ref 44) (.ref 45) 233 15,
  fN (stM Rr.prog 4 1) "__eq__" "News.__eq__" 3 .none .none .none (.str "scalebook.news" 204) (.ref 46) 0,
  oT [],
  oF [],
  oT [.str "self" 239],
  oT [],
  fO (stM Rr.prog 4 2) "__len__" "News.__len__" 0 .none .none .none .none .none 0,
  oC "__len__" "News.__len__" 236 20 1 0 0 3 (.ref 48) true (.ref 49) .none (.ref 50) (.ref 51) (.ref 52) 240 20,
  fN (stM Rr.prog 4 2) "__len__" "News.__len__" 3 .none .none .none (.str "scalebook.news" 204) (.ref 53) 0,
  oT [],
  oF [],
  fO (stM Rr.prog 4 3) "__str__" "News.__str__" 0 .none .none .none .none .none 0,
  oC "__str__" "News.__str__" 243 23 1 0 0 3 (.ref 55) true (.ref 56) .none .none .none (.ref 57) 246 23,
  fN (stM Rr.prog 4 3) "__str__" "News.__str__" 3 .none .none .none (.str "scalebook.news" 204) (.ref 58) 0,
  oT [.str "came" 249, .str "heard" 250, .str "went" 251],
  oD [dE P "__module__" 213 (.str "scalebook.news" 204), dE P "__firstlineno__" 217 (.int 8 216), dE P "__init__" 227 (.ref 40), dE P "__eq__" 235 (.ref 47), dE P "__len__" 242 (.ref 54), dE P "__str__" 248 (.ref 59), dE P "__static_attributes__" 252 (.ref 60), dE P "__dict__" 254 (.ref 63), dE P "__weakref__" 256 (.ref 64), dE P "__doc__" 257 .none, dE P "__hash__" 258 .none] 5,
  ⟨.type "type", none, .cls ⟨"News", [.type "object"], [.ref 62, .type "object"], 61, "News", true, [], [], false, none, false⟩, ⟨[none, none, some (.str "News" 206), some (.str "News" 214), some (.builtin "object.__new__"), some (.bool true)]⟩⟩,
  ⟨.type "getset_descriptor", none, .fields ⟨[.str "__dict__" 253, .ref 62, .builtin "function.__dict__", .builtin "function.__dict__#set"]⟩, ⟨[]⟩⟩]
def ob_2 (P : Params) : List Obj := [⟨.type "getset_descriptor", none, .fields ⟨[.str "__weakref__" 255, .ref 62, .builtin "ExceptionGroup.__weakref__", .none]⟩, ⟨[]⟩⟩,
  ⟨.type "super", none, .fields ⟨[.ref 62, .ref 62, .ref 62]⟩, ⟨[]⟩⟩,
  oB [.builtin "object.__init_subclass__", .ref 62],
  oT [],
  oF [],
  oT [.str "name" 264, .str "move" 265],
  oT [],
  fO (stA Rr.prog 5) "heard_text" "heard_text" 0 .none .none .none .none .none 0,
  oC "heard_text" "heard_text" 261 26 2 0 0 3 (.ref 67) true (.ref 68) .none (.ref 69) (.ref 70) (.ref 71) 266 26,
  fN (stA Rr.prog 5) "heard_text" "heard_text" 3 .none .none .none (.str "scalebook.news" 204) (.ref 72) 0,
  oT [],
  oF [],
  fO (stA Rr.prog 7) "_law_start" "_law_start" 0 .none .none .none .none .none 0,
  oC "_law_start" "_law_start" 271 29 1 0 0 3 (.ref 74) true (.ref 75) .none .none .none (.ref 76) 274 29,
  fN (stA Rr.prog 7) "_law_start" "_law_start" 3 .none .none .none (.str "law_scalebook_k58_news_objects" 269) (.ref 77) 0,
  oT [],
  oF [],
  oT [.str "_law_state" 280, .str "_law_many" 281, .str "_law_told" 282, .str "_law_size" 283],
  oT [],
  fO (stA Rr.prog 8) "_law_draw" "_law_draw" 0 .none .none .none .none .none 0,
  oC "_law_draw" "_law_draw" 277 32 2 0 0 3 (.ref 79) true (.ref 80) .none (.ref 81) (.ref 82) (.ref 83) 284 32,
  fN (stA Rr.prog 8) "_law_draw" "_law_draw" 3 .none .none .none (.str "law_scalebook_k58_news_objects" 269) (.ref 84) 0,
  oT [],
  oF [],
  oT [.str "_law_state" 290, .str "_law_count" 291, .str "_law_cell" 292, .str "_law_one" 293],
  oT [],
  fO (stA Rr.prog 9) "_law_mix" "_law_mix" 0 .none .none .none .none .none 0,
  oC "_law_mix" "_law_mix" 287 45 1 0 0 3 (.ref 86) true (.ref 87) .none (.ref 88) (.ref 89) (.ref 90) 294 45,
  fN (stA Rr.prog 9) "_law_mix" "_law_mix" 3 .none .none .none (.str "law_scalebook_k58_news_objects" 269) (.ref 91) 0,
  oT [],
  oF [],
  fO (stA Rr.prog 10) "_law_same" "_law_same" 0 .none .none .none .none .none 0]
def ob_3 (P : Params) : List Obj := [oC "_law_same" "_law_same" 297 53 2 0 0 3 (.ref 93) true (.ref 94) .none .none .none (.ref 95) 300 53,
  fN (stA Rr.prog 10) "_law_same" "_law_same" 3 .none .none .none (.str "law_scalebook_k58_news_objects" 269) (.ref 96) 0,
  oT [],
  oF [],
  oT [.str "_law_top" 306, .str "_law_bottom" 307, .str "_law_one" 308, .str "_law_other" 309],
  oT [],
  fO (stA Rr.prog 11) "_law_lowest" "_law_lowest" 0 .none .none .none .none .none 0,
  oC "_law_lowest" "_law_lowest" 303 65 2 0 0 3 (.ref 98) true (.ref 99) .none (.ref 100) (.ref 101) (.ref 102) 310 65,
  fN (stA Rr.prog 11) "_law_lowest" "_law_lowest" 3 .none .none .none (.str "law_scalebook_k58_news_objects" 269) (.ref 103) 0,
  oT [],
  oF [],
  oT [.str "_law_state" 316, .str "_law_size" 317],
  oT [],
  fO (stA Rr.prog 12) "_law_part" "_law_part" 0 .none .none .none .none .none 0,
  oC "_law_part" "_law_part" 313 73 1 0 0 3 (.ref 105) true (.ref 106) .none (.ref 107) (.ref 108) (.ref 109) 318 73,
  fN (stA Rr.prog 12) "_law_part" "_law_part" 3 .none .none .none (.str "law_scalebook_k58_news_objects" 269) (.ref 110) 0,
  oT [],
  oF [],
  fO (stA Rr.prog 13) "_law_lists" "_law_lists" 0 .none .none .none .none .none 0,
  oC "_law_lists" "_law_lists" 321 76 1 0 0 3 (.ref 112) true (.ref 113) .none .none .none (.ref 114) 324 76,
  fN (stA Rr.prog 13) "_law_lists" "_law_lists" 3 .none .none .none (.str "law_scalebook_k58_news_objects" 269) (.ref 115) 0,
  oT [],
  oF [],
  oT [.str "_law_fraction" 330],
  oT [],
  fO (stA Rr.prog 14) "_law_number" "_law_number" 0 .none .none .none .none .none 0,
  oC "_law_number" "_law_number" 327 85 1 0 0 3 (.ref 117) true (.ref 118) .none (.ref 119) (.ref 120) (.ref 121) 331 85,
  fN (stA Rr.prog 14) "_law_number" "_law_number" 3 .none .none .none (.str "law_scalebook_k58_news_objects" 269) (.ref 122) 0,
  oT [],
  oF [],
  fO (stA Rr.prog 15) "_law_text" "_law_text" 0 .none .none .none .none .none 0,
  oC "_law_text" "_law_text" 334 87 1 0 0 3 (.ref 124) true (.ref 125) .none .none .none (.ref 126) 337 87]
def ob_4 (P : Params) : List Obj := [fN (stA Rr.prog 15) "_law_text" "_law_text" 3 .none .none .none (.str "law_scalebook_k58_news_objects" 269) (.ref 127) 0,
  oT [],
  oF [],
  fO (stA Rr.prog 16) "_law_bent" "_law_bent" 0 .none .none .none .none .none 0,
  oC "_law_bent" "_law_bent" 340 92 2 0 0 3 (.ref 129) true (.ref 130) .none .none .none (.ref 131) 343 92,
  fN (stA Rr.prog 16) "_law_bent" "_law_bent" 3 .none .none .none (.str "law_scalebook_k58_news_objects" 269) (.ref 132) 0,
  oT [],
  oF [],
  fO (stA Rr.prog 17) "law" "law" 0 .none .none .none .none .none 0,
  oC "law" "law" 346 107 1 0 0 3 (.ref 134) true (.ref 135) .none .none .none (.ref 136) 349 107,
  fN (stA Rr.prog 17) "law" "law" 3 .none .none .none (.str "law_scalebook_k58_news_objects" 269) (.ref 137) 0]
def obs (P : Params) : List (List Obj) := [ob_0 P, ob_1 P, ob_2 P, ob_3 P, ob_4 P]
def cv_boot (P : Params) : List (Nat × Obj) := [(3, PySem.W.boot_o_3 P)]
def S_boot (w : World) (os : OsState) : SharedT := ⟨ovT (cv_boot w.params) (trF (atObj (obs w.params)) 11 14 1 0), 11, {}, ⟨[]⟩, ⟨0, 0, 0, 0⟩, 181, os⟩
def cv_pre (P : Params) : List (Nat × Obj) := [(3, PySem.W.boot_o_3 P),
  (12, oF [])]
def S_pre (w : World) (os : OsState) : SharedT := ⟨ovT (cv_pre w.params) (trF (atObj (obs w.params)) 15 14 1 0), 15, {}, ⟨[]⟩, ⟨0, 0, 0, 0⟩, 187, os⟩
def cv_blk (P : Params) : List (Nat × Obj) := [(3, PySem.W.boot_o_3 P),
  (12, oF [])]
def S_blk (w : World) (os : OsState) : SharedT := ⟨ovT (cv_blk w.params) (trF (atObj (obs w.params)) 15 14 1 0), 15, {}, ⟨[]⟩, ⟨0, 0, 0, 0⟩, 187, os⟩
def cv_0 (P : Params) : List (Nat × Obj) := []
def S_0 (w : World) (os : OsState) : SharedT := ⟨ovT (cv_0 w.params) (trF (atObj (obs w.params)) 139 14 1 0), 139, {}, ⟨[]⟩, ⟨0, 0, 0, 0⟩, 352, os⟩
def cv_end (P : Params) : List (Nat × Obj) := []
def S_end (w : World) (os : OsState) : SharedT := ⟨ovT (cv_end w.params) (trF (atObj (obs w.params)) 139 14 1 0), 139, {}, ⟨[]⟩, ⟨0, 0, 0, 0⟩, 352, os⟩
def cEnv : PySem.Env := { scope := Rr.prog.main.scope, locals := mainNs, globals := mainNs, cells := [], code := .ref 13, frame := some 14 }
abbrev cB : List Stmt := behindTheImports Rr.prog
abbrev cC : Code := .body cB cEnv
def p_q : Pos := ⟨0, 0, 0, 0⟩
def p_pre : Pos := ⟨0, 0, 0, 0⟩
def p_blk : Pos := ⟨0, 0, 0, 0⟩
def p_0 : Pos := ⟨107, 0, 127, 89⟩
abbrev n_0 : Nat := 11
theorem bootE (w : World) : putAll (boot_heap w.params).objs.toList .nil 0 = some ((S_boot w default).tree, n_0) := by
  kernel_rfl
theorem bootL (w : World) (os : OsState) : bootT w os ((S_boot w default).tree, n_0) = S_boot w os := by
  kernel_rfl
theorem preE (w : World) (os : OsState) : topF (stepQ (denQ tabQ) Rr.prog w) n_0 (bootAnn w) 12 (S_boot w os) (topStub Rr.prog) = some (S_pre w os, ⟨denQ tabQ cC, cC, p_pre, [topFrame p_q]⟩) := by
  kernel_rfl
theorem blkE (w : World) (os : OsState) : segF (stepQ (denQ tabQ) Rr.prog w) n_0 (bootAnn w) 1 (S_pre w os) ⟨(blockQ cB cEnv).wrap (fun _ => doneF .next) deadEnd id id, cC, p_pre, [topFrame p_q]⟩ = some (.next, S_blk w os, cC, p_blk) := by
  kernel_rfl
theorem pc_0 (w : World) (os : OsState) : segF (stepQ (denQ tabQ) Rr.prog w) n_0 (bootAnn w) 749 (S_blk w os) ⟨(execQ ((cB.drop 0).take 18) cEnv).wrap doneF deadEnd id id, cC, p_blk, [topFrame p_q]⟩ = some (.next, S_0 w os, cC, p_0) := by
  kernel_rfl
theorem finE (w : World) (os : OsState) : goF (stepQ (denQ tabQ) Rr.prog w) n_0 (bootAnn w) 3 (S_0 w os) ⟨doneF .next, cC, p_0, [topFrame p_q]⟩ = some (S_end w os) := by
  kernel_rfl
abbrev M_top : Nat := 12 + (1 + (749 + 3))
theorem endB : cB.drop 18 = [] := by kernel_rfl
theorem top_all (w : World) : TopS Rr.prog M_top S_end w := fun os => by
  have e0 := boot_abs (os := os) (bootE w)
  rw [bootL] at e0
  rw [e0.2, ← e0.1]
  refine PySem.W.go_top (topF_ok (by rw [stepT_Q]; exact preE w os)) ?_
  rw [← den_Q]
  refine PySem.W.piece_block (segF_ok (by rw [stepT_Q]; show segF _ _ _ _ _ ⟨(blockStart cB cEnv).wrap _ _ _ _, _, _, _⟩ = _; rw [block_Q]; exact blkE w os)) ?_
  show PySem.W.topRun _ _ _ _ _ _ _ (restOf (cB.drop 0) cEnv _ _ _) = _
  refine piece_more (i := 0) (j := 18) (by rw [stepT_Q]; show segF _ _ _ _ _ ⟨(execs _ _).wrap _ _ _ _, _, _, _⟩ = _; rw [exec_Q]; exact pc_0 w os) ?_
  show PySem.W.topRun _ _ _ _ _ _ _ (restOf (cB.drop 18) cEnv _ _ _) = _
  rw [endB]
  refine PySem.W.piece_nil ?_
  exact goF_ok (by rw [stepT_Q]; exact finE w os)
end
end Sb
namespace Sb
open PySem PySem.Spec L2
def addrs : List Addr := [3, 21, 26, 62, 73, 78, 85, 92, 97, 104, 111, 116, 123, 128, 133, 138, 20, 25, 61, 72, 77, 84, 91, 96, 103, 110, 115, 122, 127, 132, 137, 40, 47, 54, 59, 39, 46, 53, 58]
def ml : List (Str × Option Addr) := [(("__name__" : PySem.Str), none), (("__doc__" : PySem.Str), none), (("__package__" : PySem.Str), none), (("__loader__" : PySem.Str), none), (("__spec__" : PySem.Str), none), (("__annotations__" : PySem.Str), none), (("__builtins__" : PySem.Str), none), (("__file__" : PySem.Str), none), (("__cached__" : PySem.Str), none), (("number_written" : PySem.Str), some 21), (("move_text" : PySem.Str), some 26), (("News" : PySem.Str), some 62), (("heard_text" : PySem.Str), some 73), (("_law_start" : PySem.Str), some 78), (("_law_draw" : PySem.Str), some 85), (("_law_mix" : PySem.Str), some 92), (("_law_same" : PySem.Str), some 97), (("_law_lowest" : PySem.Str), some 104), (("_law_part" : PySem.Str), some 111), (("_law_lists" : PySem.Str), some 116), (("_law_number" : PySem.Str), some 123), (("_law_text" : PySem.Str), some 128), (("_law_bent" : PySem.Str), some 133), (("law" : PySem.Str), some 138)]
def al : List (Addr × Addr) := [(21, 20), (26, 25), (73, 72), (78, 77), (85, 84), (92, 91), (97, 96), (104, 103), (111, 110), (116, 115), (123, 122), (128, 127), (133, 132), (138, 137), (40, 39), (47, 46), (54, 53), (59, 58)]
def fns : List FnT := hfn.zip al
theorem fns_fst : fns.map Prod.fst = hfn := by rfl
theorem sideN : sideL addrs ml hfa fns = true := by decide +kernel
theorem bnd : boundL Rr.prog ml = true := by decide +kernel
theorem runA (w : World) (os : OsState) : (some (S_end w os) : Option PySem.W.SharedT).map (fun s => (PySem.W.staticsOk (importedModules Rr.prog.main.body) (PySem.W.boot_heap w.params) s.abs.heap && (PySem.W.gensDone s.abs && PySem.W.laidKept (PySem.W.boot_heap w.params) s.abs.heap), obsNT addrs ml fns (fun _ => true) hts s)) = some (true, valN fns hts w) := by
  kernel_rfl
theorem runX (w : World) (os : OsState) : (some (S_end w os) : Option PySem.W.SharedT).map (fun s => hex (He.frG (HandSHeadRun.getT s) addrs)) = some true := by
  kernel_rfl
open PySem.W HandSHeadRun in
theorem runS (w : World) (os : OsState) : (some (S_end w os) : Option PySem.W.SharedT).map (fun s => HandSHeadRun.seenQ (PySem.W.view Rr.prog [17]) loose (importedModules Rr.prog.main.body) (fun s => xlAt (PySem.W.view Rr.prog [17]) [] s && recOk Rr.toRowW.records s) s.abs) = some (openGood (PySem.W.view Rr.prog [17]) loose) := by
  kernel_rfl
theorem run (w : World) : RunS Rr (PySem.W.view Rr.prog [17]) (hookN addrs ml hfa fns hex hts sideN) (obsNT addrs ml fns hex hts) loose S_end w := fun os => run_join3 bnd (runA w os) (runX w os) (runS w os)
end Sb
section
open PySem PySem.W PySem.Calls PyProof.Rows
set_option maxHeartbeats 0 in
theorem Sb.early (hc : WalkO (view (OpenLaw.row PySem.Challenge.rw_scalebook_k58_news_objects).prog [17]) Sb.loose (XL (view (OpenLaw.row PySem.Challenge.rw_scalebook_k58_news_objects).prog [17]) []) (Sb.hookN Sb.addrs Sb.ml Sb.hfa Sb.fns Sb.hex Sb.hts Sb.sideN).says (OpenLaw.row PySem.Challenge.rw_scalebook_k58_news_objects).toRowW (HandSHeadRun.topDef (OpenLaw.row PySem.Challenge.rw_scalebook_k58_news_objects).prog 17) [] fun f vs => PySem.call f vs) : PySem.Challenge.rw_scalebook_k58_news_objects.Holds := by
  w_on; o_law
  refine Sb.head_top (r := OpenLaw.row PySem.Challenge.rw_scalebook_k58_news_objects) (q := view (OpenLaw.row PySem.Challenge.rw_scalebook_k58_news_objects).prog [17]) (H := Sb.hookN Sb.addrs Sb.ml Sb.hfa Sb.fns Sb.hex Sb.hts Sb.sideN) (ob := Sb.obsNT Sb.addrs Sb.ml Sb.fns Sb.hex Sb.hts) (M := Sb.M_top) (S := Sb.S_end) (loose := Sb.loose) (d := HandSHeadRun.topDef (OpenLaw.row PySem.Challenge.rw_scalebook_k58_news_objects).prog 17) (kwd := []) Sb.obsNT_eq
    (by kernel_rfl) (fun s => by kernel_rfl) Sb.top_all Sb.run (by kernel_rfl) (by kernel_rfl) (by kernel_rfl) (by rfl) (by first | assumption | decide +kernel) (by decide +kernel) ⟨rfl, rfl, rfl, rfl, rfl, by decide +kernel⟩ ?hw hc
  case hw => w_witness2
end
set_option maxHeartbeats 4000000
namespace Sb
open PySem
/-- what two zipped things give -/
def zipP : List PV → List PV → List PV
  | a :: as, b :: bs => .tup [a, b] :: zipP as bs
  | _, _ => []
def zipP3 : List PV → List PV → List PV → List PV
  | a :: as, b :: bs, c :: cs => .tup [a, b, c] :: zipP3 as bs cs
  | _, _, _ => []
abbrev Keep := List (Nat × List PV)
def zbf (kp : Keep) (h : PH) : Prop := ∀ p ∈ kp, h[p.1]? = some (.lst p.2)
/-- what a loop walks: its items, and what must stay as it is -/
def walkSeq (as : List PV) (h : PH) : Option (List PV × Keep) := match as with
  | [.cl l] => some (l, [])
  | [.ref n] => (match h[n]? with | some (.lst l) => some (l, [(n, l)]) | _ => none)
  | [.tup l] => some (l, [])
  | [.str z] => some (z.cps.toList.map fun c => .str ⟨#[c]⟩, [])
  | _ => none
def walkRange (as : List PV) (h : PH) : Option (List PV × Keep) := match as with
  | [.int n] => if n < 2 ^ 62 ∧ -(2 ^ 62) ≤ n then some (rangeP n, []) else none
  | _ => none
def walkZip (as : List PV) (h : PH) : Option (List PV × Keep) := match as with
  | [.tup l, .tup k] => some (zipP l k, [])
  | [.ref m, .ref n] => (match h[m]?, h[n]? with
    | some (.lst l), some (.lst k) => some (zipP l k, [(m, l), (n, k)])
    | _, _ => none)
  | _ => none
def walkZip3 (as : List PV) (h : PH) : Option (List PV × Keep) := match as with
  | [.ref m, .ref n, .ref k] => (match h[m]?, h[n]?, h[k]? with
    | some (.lst l), some (.lst l2), some (.lst l3) => some (zipP3 l l2 l3, [(m, l), (n, l2), (k, l3)])
    | _, _, _ => none)
  | _ => none
def walkZipT (as : List PV) (h : PH) : Option (List PV × Keep) := match as with
  | [.tup l, .tup k] => some (zipP l k, [])
  | _ => none
def walkF : ITK → List PV → PH → Option (List PV × Keep)
  | .zipT => walkZipT
  | .seq => walkSeq
  | .range => walkRange
  | .zip => walkZip
  | .zip3 => walkZip3
inductive RS where
  | nx (ρ : Env) (h : PH)
  | rt (v : PV) (h : PH)
  | bk (ρ : Env) (h : PH)
  | ct (ρ : Env) (h : PH)
  | ex (x : Exn) (ρ : Env) (h : PH)
  | no
/-- an expression ahead of a statement's rest -/
def R.st {α : Type} (m : R α) (ρ : Env) (f : α → PH → RS) : RS := match m with | .ok a h => f a h | .ex x h => .ex x ρ h | .no => .no
@[simp] theorem R.st_ok {α : Type} (a : α) (h : PH) (ρ : Env) (f : α → PH → RS) : (R.ok a h).st ρ f = f a h := rfl
@[simp] theorem R.st_no {α : Type} (ρ : Env) (f : α → PH → RS) : (R.no : R α).st ρ f = .no := rfl
@[simp] theorem R.st_ex {α : Type} (x : Exn) (h : PH) (ρ : Env) (f : α → PH → RS) : (R.ex x h : R α).st ρ f = .ex x ρ h := rfl
def RS.seq (m : RS) (f : Env → PH → RS) : RS := match m with | .nx ρ h => f ρ h | r => r
@[simp] theorem RS.seq_nx (ρ : Env) (h : PH) (f : Env → PH → RS) : (RS.nx ρ h).seq f = f ρ h := rfl
@[simp] theorem RS.seq_rt (v : PV) (h : PH) (f : Env → PH → RS) : (RS.rt v h).seq f = .rt v h := rfl
@[simp] theorem RS.seq_no (f : Env → PH → RS) : RS.no.seq f = .no := rfl
@[simp] theorem RS.seq_bk (ρ : Env) (h : PH) (f : Env → PH → RS) : (RS.bk ρ h).seq f = .bk ρ h := rfl
@[simp] theorem RS.seq_ct (ρ : Env) (h : PH) (f : Env → PH → RS) : (RS.ct ρ h).seq f = .ct ρ h := rfl
@[simp] theorem RS.seq_ex (x : Exn) (ρ : Env) (h : PH) (f : Env → PH → RS) : (RS.ex x ρ h).seq f = .ex x ρ h := rfl
open Classical in
noncomputable def zav (kp : Keep) (bind : PV → Option Env) (t : Env → PH → R Bool) (e : Env → PH → R PV) : List PV → List PV → PH → R (List PV)
  | [], acc, h => if zbf kp h then .ok acc h else .no
  | x :: xs, acc, h => if zbf kp h then
      (match bind x with
      | some ρ => (t ρ h).bind fun b h1 => if b then (e ρ h1).bind fun v h2 => if zaq (acc.length + 1) then zav kp bind t e xs (acc ++ [v]) h2 else .no else zav kp bind t e xs acc h1
      | none => .no) else .no
open Classical in
/-- two fors: inner goes through what one item of the outer one gives -/
noncomputable def comp2Loop (kp : Keep) (bind : PV → Option Env) (inner : Env → List PV → PH → R (List PV)) : List PV → List PV → PH → R (List PV)
  | [], acc, h => if zbf kp h then .ok acc h else .no
  | x :: xs, acc, h => if zbf kp h then
      (match bind x with
      | some ρ => (inner ρ acc h).bind fun l h1 => comp2Loop kp bind inner xs l h1
      | none => .no) else .no
open Classical in
noncomputable def dcompLoop (kp : Keep) (bind : PV → Option Env) (t : Env → PH → R Bool) (ek ev : Env → PH → R PV) : List PV → List (L2.Key × PV) → PH → R (List (L2.Key × PV))
  | [], acc, h => if zbf kp h then .ok acc h else .no
  | x :: xs, acc, h => if zbf kp h then
      (match bind x with
      | some ρ => (t ρ h).bind fun b h1 => if b then (ek ρ h1).bind fun k h2 => (ev ρ h2).bind fun v h3 => (match keyOf k with | some k => if zaq (acc.length + 1) then dcompLoop kp bind t ek ev xs (putP acc k v) h3 else .no | none => .no) else dcompLoop kp bind t ek ev xs acc h1
      | none => .no) else .no
/-- {x[0] for x in xs} -/
def firstK : PV → Option L2.Key
  | .tup (p :: _) => keyOf p
  | _ => none
def firstsP (d : Option PV) (h : PH) : R PV := match d with
  | some (.ref n) => (match h[n]? with
    | some (.lst l) => (match mapO firstK l with
      | some ks => if l.length < 1000 then .ok (.ste (ks.foldl addK [])) h else .no
      | none => .no)
    | _ => .no)
  | _ => .no
/-- {scale: near if mark == far else mark for scale, mark in marks.items()} -/
def remarkL (a b : Str) (l : List (L2.Key × PV)) : List (L2.Key × PV) := l.map fun kv => (kv.1, match kv.2 with | .str m => .str (if m = b then a else m) | v => v)
def remarkP (d near far : Option PV) (h : PH) : R PV := match d, near, far with
  | some (.ref n), some (.str a), some (.str b) => (match h[n]? with
    | some (.dct l) => (match strsOf (l.map (·.2)) with
      | some _ => if zaq (l.length + 1) then allocD (mergeP [] (remarkL a b l)) h else .no
      | none => .no)
    | _ => .no)
  | _, _, _ => .no
/-- a loop's turn ends: the next one, or the loop's end -/
def RS.turn (m : RS) (f : Env → PH → RS) : RS := match m with | .nx ρ h => f ρ h | .ct ρ h => f ρ h | .bk ρ h => .nx ρ h | r => r
@[simp] theorem RS.turn_nx (ρ : Env) (h : PH) (f : Env → PH → RS) : (RS.nx ρ h).turn f = f ρ h := rfl
@[simp] theorem RS.turn_ct (ρ : Env) (h : PH) (f : Env → PH → RS) : (RS.ct ρ h).turn f = f ρ h := rfl
@[simp] theorem RS.turn_bk (ρ : Env) (h : PH) (f : Env → PH → RS) : (RS.bk ρ h).turn f = .nx ρ h := rfl
@[simp] theorem RS.turn_rt (v : PV) (h : PH) (f : Env → PH → RS) : (RS.rt v h).turn f = .rt v h := rfl
@[simp] theorem RS.turn_ex (x : Exn) (ρ : Env) (h : PH) (f : Env → PH → RS) : (RS.ex x ρ h).turn f = .ex x ρ h := rfl
@[simp] theorem RS.turn_no (f : Env → PH → RS) : RS.no.turn f = .no := rfl
open Classical in
noncomputable def forLoop (kp : Keep) (bind : Env → PV → Option Env) (b : Env → PH → RS) : List PV → Env → PH → RS
  | [], ρ, h => if zbf kp h then .nx ρ h else .no
  | x :: xs, ρ, h => if zbf kp h then (match bind ρ x with | some ρ1 => (b ρ1 h).turn (forLoop kp bind b xs) | none => .no) else .no
def zaw (t : Env → PH → R Bool) (b : Env → PH → RS) : Nat → Env → PH → RS
  | 0, _, _ => .no
  | n + 1, ρ, h => (t ρ h).st ρ fun c h1 => if c then (b ρ h1).turn (zaw t b n) else .nx ρ h1
theorem whileN_up {t : Env → PH → R Bool} {b : Env → PH → RS} : ∀ (n : Nat) (ρ : Env) (h : PH), zaw t b n ρ h ≠ .no → zaw t b (n + 1) ρ h = zaw t b n ρ h := by
  intro n
  induction n with
  | zero => intro ρ h q; exact absurd rfl q
  | succ n ih =>
    intro ρ h q
    show (t ρ h).st ρ (fun c h1 => if c then (b ρ h1).turn (zaw t b (n + 1)) else .nx ρ h1) = (t ρ h).st ρ fun c h1 => if c then (b ρ h1).turn (zaw t b n) else .nx ρ h1
    have q' : ((t ρ h).st ρ fun c h1 => if c then (b ρ h1).turn (zaw t b n) else .nx ρ h1) ≠ .no := q
    cases e : t ρ h with
    | no => rfl
    | ex x h1 => rfl
    | ok c h1 =>
      rw [e] at q'
      simp only [R.st_ok] at q' ⊢
      cases c with
      | false => rfl
      | true =>
        simp only [if_true] at q' ⊢
        cases e2 : b ρ h1 with
        | nx ρ2 h2 => rw [e2] at q'; exact ih ρ2 h2 q'
        | ct ρ2 h2 => rw [e2] at q'; exact ih ρ2 h2 q'
        | bk ρ2 h2 => rfl
        | rt v h2 => rfl
        | ex x ρ2 h2 => rfl
        | no => rfl
theorem whileN_le {t : Env → PH → R Bool} {b : Env → PH → RS} {m n : Nat} {ρ : Env} {h : PH} (hmn : m ≤ n) (q : zaw t b m ρ h ≠ .no) : zaw t b n ρ h = zaw t b m ρ h := by
  induction hmn with
  | refl => rfl
  | step _ ih => rw [whileN_up _ _ _ (by rw [ih]; exact q), ih]
open Classical in
noncomputable def whileF (t : Env → PH → R Bool) (b : Env → PH → RS) (ρ : Env) (h : PH) : RS :=
  if q : ∃ n, zaw t b n ρ h ≠ .no then zaw t b q.choose ρ h else .no
theorem whileF_of {t : Env → PH → R Bool} {b : Env → PH → RS} {n : Nat} {ρ : Env} {h : PH} (q : zaw t b n ρ h ≠ .no) : whileF t b ρ h = zaw t b n ρ h := by
  unfold whileF
  have q' : ∃ n, zaw t b n ρ h ≠ .no := ⟨n, q⟩
  rw [dif_pos q']
  rcases Nat.le_total n q'.choose with z | z
  · exact whileN_le z q
  · exact (whileN_le z q'.choose_spec).symm
theorem whileF_some {t : Env → PH → R Bool} {b : Env → PH → RS} {ρ : Env} {h : PH} (q : whileF t b ρ h ≠ .no) : ∃ n, zaw t b n ρ h ≠ .no ∧ whileF t b ρ h = zaw t b n ρ h := by
  by_cases q' : ∃ n, zaw t b n ρ h ≠ .no
  · obtain ⟨n, e⟩ := q'
    exact ⟨n, e, whileF_of e⟩
  · exfalso
    apply q
    unfold whileF
    rw [dif_neg q']
/-- a while, one turn -/
theorem whileF_eq (t : Env → PH → R Bool) (b : Env → PH → RS) (ρ : Env) (h : PH) : whileF t b ρ h = (t ρ h).st ρ fun c h1 => if c then (b ρ h1).turn (whileF t b) else .nx ρ h1 := by
  by_cases q : ((t ρ h).st ρ fun c h1 => if c then (b ρ h1).turn (whileF t b) else .nx ρ h1) = .no
  · rw [q]
    by_cases z : whileF t b ρ h = .no
    · exact z
    · exfalso
      obtain ⟨n, e1, e2⟩ := whileF_some z
      cases n with
      | zero => exact e1 rfl
      | succ n =>
        apply e1
        show ((t ρ h).st ρ fun c h1 => if c then (b ρ h1).turn (zaw t b n) else .nx ρ h1) = .no
        cases e : t ρ h with
        | no => rfl
        | ex x h1 => rw [e] at q; cases q
        | ok c h1 =>
          rw [e] at q
          simp only [R.st_ok] at q ⊢
          cases c with
          | false => simp at q
          | true =>
            simp only [if_true] at q ⊢
            cases e3 : b ρ h1 with
            | nx ρ2 h2 =>
              rw [e3] at q
              by_cases w : zaw t b n ρ2 h2 = .no
              · exact w
              · have := whileF_of w
                show zaw t b n ρ2 h2 = .no
                rw [← this]
                exact q
            | ct ρ2 h2 =>
              rw [e3] at q
              by_cases w : zaw t b n ρ2 h2 = .no
              · exact w
              · have := whileF_of w
                show zaw t b n ρ2 h2 = .no
                rw [← this]
                exact q
            | bk ρ2 h2 => rw [e3] at q; cases q
            | rt v h2 => rw [e3] at q; cases q
            | ex x ρ2 h2 => rw [e3] at q; cases q
            | no => rfl
  · have key : ∃ n, zaw t b n ρ h = (t ρ h).st ρ fun c h1 => if c then (b ρ h1).turn (whileF t b) else .nx ρ h1 := by
      cases e : t ρ h with
      | no => rw [e] at q; exact absurd rfl q
      | ex x h1 => exact ⟨1, by show (t ρ h).st ρ _ = _; rw [e]; rfl⟩
      | ok c h1 =>
        rw [e] at q
        simp only [R.st_ok] at q ⊢
        cases c with
        | false => exact ⟨1, by show (t ρ h).st ρ _ = _; rw [e]; rfl⟩
        | true =>
          simp only [if_true] at q ⊢
          cases e3 : b ρ h1 with
          | nx ρ2 h2 =>
            rw [e3] at q
            obtain ⟨n, _, e5⟩ := whileF_some (show whileF t b ρ2 h2 ≠ .no from q)
            exact ⟨n + 1, by show (t ρ h).st ρ _ = _; rw [e]; simp only [R.st_ok, if_true]; rw [e3]; exact e5.symm⟩
          | ct ρ2 h2 =>
            rw [e3] at q
            obtain ⟨n, _, e5⟩ := whileF_some (show whileF t b ρ2 h2 ≠ .no from q)
            exact ⟨n + 1, by show (t ρ h).st ρ _ = _; rw [e]; simp only [R.st_ok, if_true]; rw [e3]; exact e5.symm⟩
          | bk ρ2 h2 => exact ⟨1, by show (t ρ h).st ρ _ = _; rw [e]; simp only [R.st_ok, if_true]; rw [e3]; rfl⟩
          | rt v h2 => exact ⟨1, by show (t ρ h).st ρ _ = _; rw [e]; simp only [R.st_ok, if_true]; rw [e3]; rfl⟩
          | ex x ρ2 h2 => exact ⟨1, by show (t ρ h).st ρ _ = _; rw [e]; simp only [R.st_ok, if_true]; rw [e3]; rfl⟩
          | no => rw [e3] at q; exact absurd rfl q
    obtain ⟨n, e⟩ := key
    rw [← e] at q ⊢
    exact whileF_of q
abbrev Calls := Nat → List PV → PH → R PV
/-- a value as it is, or (t) its truth -/
def fin (t : Bool) (m : R PV) : R PV := if t then m.bind fun x h => ofO ((truthy h x).map .bl) h else m
def asB (m : R PV) : R Bool := m.bind fun x h => match x with | .bl b => .ok b h | _ => .no
mutual
/-- t: asked as a test -/
noncomputable def evG (C : Calls) : E → Bool → Env → PH → R PV
  | .var i, t, ρ, h => fin t (ofO (ρ.get i) h)
  | .lit v, t, _, h => fin t (.ok v h)
  | .bin op a b, t, ρ, h => fin t ((evG C a false ρ h).bind fun x h1 => (evG C b false ρ h1).bind fun y h2 => binop op x y h2)
  | .neg a, t, ρ, h => fin t ((evG C a false ρ h).bind fun x h1 => match x with | .int i => .ok (.int (-i)) h1 | _ => .no)
  | .nt a, t, ρ, h => (evG C a t ρ h).bind fun x h1 => match x with | .bl b => .ok (.bl (!b)) h1 | _ => .no
  | .band a b, t, ρ, h => (evG C a t ρ h).bind fun x h1 => match x with | .bl true => evG C b t ρ h1 | .bl false => .ok (.bl false) h1 | _ => .no
  | .bor a b, t, ρ, h => (evG C a t ρ h).bind fun x h1 => match x with | .bl false => evG C b t ρ h1 | .bl true => .ok (.bl true) h1 | _ => .no
  | .cmp op a b, t, ρ, h => fin t ((evG C a false ρ h).bind fun x h1 => (evG C b false ρ h1).bind fun y h2 => cmpop op x y h2)
  | .ite c a b, t, ρ, h => fin t ((evG C c true ρ h).bind fun x h1 => match x with | .bl true => evG C a false ρ h1 | .bl false => evG C b false ρ h1 | _ => .no)
  | .tup es, t, ρ, h => fin t ((evGs C es ρ h).bind fun l h1 => tupO l h1)
  | .lst es, t, ρ, h => fin t ((evGs C es ρ h).bind fun l h1 => alloc l h1)
  | .idx a i, t, ρ, h => fin t ((evG C a false ρ h).bind fun x h1 => (evG C i false ρ h1).bind fun y h2 => idxop x y h2)
  | .slc a lo hi, t, ρ, h => fin t ((evG C a false ρ h).bind fun x h1 => (evGo C lo ρ h1).bind fun l h2 => (evGo C hi ρ h2).bind fun u h3 => slcop x l u h3)
  | .call f es ds, t, ρ, h => fin t ((evGs C es ρ h).bind fun l h1 => C f (l ++ ds) h1)
  | .callk f es ix ds, t, ρ, h => fin t ((evGs C es ρ h).bind fun l h1 => match mapO (fun i => l[i]?) ix with | some l' => C f (l' ++ ds) h1 | none => .no)
  | .bi b es, t, ρ, h => fin t ((evGs C es ρ h).bind fun l h1 => biF b l h1)
  | .mth m o es, t, ρ, h => fin t ((evG C o false ρ h).bind fun x h1 => if tyOf h1 x = some m.ty then (evGs C es ρ h1).bind fun l h2 => mtF m x l h2 else .no)
  | .srt a, t, ρ, h => fin t ((evG C a false ρ h).bind fun x h1 => srtop x h1)
  | .srtW a i, t, ρ, h => fin t ((evG C a false ρ h).bind fun x h1 => match ρ[i]? with
    | some (some (.int w)) => srtWop w x h1
    | _ => .no)
  | .dct es, t, ρ, h => fin t ((evGs C es ρ h).bind fun l h1 => match pairUp l with | some l => allocD (mergeP [] l) h1 | none => .no)
  | .dcomp ke ve tg one k its cond own, t, ρ, h => fin t ((evGs C its ρ h).bind fun l h1 =>
      match walkF k l h1 with
      | some (items, kp) => (dcompLoop kp (fun x => zbp (wipeP ρ own) tg one x) (fun ρ1 h2 => (evGc C cond ρ1 h2).calm) (fun ρ1 h2 => (evG C ke false ρ1 h2).calm) (fun ρ1 h2 => (evG C ve false ρ1 h2).calm) items [] h1).bind fun l h2 => allocD l h2
      | none => .no)
  | .firsts j, t, ρ, h => fin t (firstsP (ρ.get j) h)
  | .remark d near far, t, ρ, h => fin t (remarkP (ρ.get d) (ρ.get near) (ρ.get far) h)
  | .comp elt tg one k its cond own, t, ρ, h => fin t ((evGs C its ρ h).bind fun l h1 =>
      match walkF k l h1 with
      | some (items, kp) => (zav kp (fun x => zbp (wipeP ρ own) tg one x) (fun ρ1 h2 => (evGc C cond ρ1 h2).calm) (fun ρ1 h2 => (evG C elt false ρ1 h2).calm) items [] h1).bind fun l h2 => alloc l h2
      | none => .no)
  | .comp2 elt tg one k its tg1 one1 k1 its1 own, t, ρ, h => fin t ((evGs C its ρ h).bind fun l h1 =>
      match walkF k l h1 with
      | some (items, kp) => (comp2Loop kp (fun x => zbp (wipeP ρ own) tg one x) (fun ρ1 acc h2 => (evGs C its1 ρ1 h2).calm.bind fun l1 h3 => match walkF k1 l1 h3 with
          | some (items1, kp1) => zav kp1 (fun y => zbp (wipeP ρ1 tg1) tg1 one1 y) (fun _ h4 => .ok true h4) (fun ρ2 h4 => (evG C elt false ρ2 h4).calm) items1 acc h3
          | none => .no) items [] h1).bind fun l h2 => alloc l h2
      | none => .no)
  | .stp a s, t, ρ, h => fin t ((evG C a false ρ h).bind fun x h1 => (evG C s false ρ h1).bind fun st h2 => stpop x st h2)
  | .rev a, t, ρ, h => fin t ((evG C a false ρ h).bind fun x h1 => revop x h1)
  | .xat a f c, t, ρ, h => fin t ((evG C a false ρ h).bind fun x h1 => xatop x f c h1)
  | .fld c f a, t, ρ, h => fin t ((evG C a false ρ h).bind fun x h1 => fldop c f x h1)
  | .meth c m k o es ds, t, ρ, h => fin t ((evG C o false ρ h).bind fun x h1 => if insB c m h1 x then (evGs C es ρ h1).bind fun l h2 => C k (x :: (l ++ ds)) h2 else .no)
  | .make c k es ds, t, ρ, h => fin t ((evGs C es ρ h).bind fun l h1 => (C k (.ref h1.length :: (l ++ ds)) (h1 ++ [.obj c []])).bind fun v h2 => isNew v h1.length h2)
  | .disp tb w es, t, ρ, h => fin t ((evG C w false ρ h).bind fun x h1 => match x with
      | .str s => (match tb.lookup s with | some k => (evGs C es ρ h1).bind fun l h2 => C k l h2 | none => .no)
      | _ => .no)
  | .chain op op2 a b c, t, ρ, h => fin t ((evG C a false ρ h).bind fun x h1 => (evG C b false ρ h1).bind fun y h2 => (cmpop op x y h2).bind fun k h3 => match k with
      | .bl true => (evG C c false ρ h3).bind fun z h4 => cmpop op2 y z h4
      | .bl false => .ok (.bl false) h3
      | _ => .no)
  | .dctc l, t, _, h => fin t (allocD l h)
  | .ntv a, t, ρ, h => fin t ((evG C a false ρ h).bind fun x h1 => match truthy h1 x with | some b => .ok (.bl (!b)) h1 | none => .no)
  | .dtp0, t, _, h => fin t (.ok (.ref h.length) (h ++ [.dtp []]))
  | .idxT o ks, t, ρ, h => fin t ((evG C o false ρ h).bind fun x h1 => (evGs C ks ρ h1).bind fun l h2 => getQ x l h2)
  | .orv a b, t, ρ, h => fin t ((evG C a false ρ h).bind fun x h1 => match truthy h1 x with | some true => .ok x h1 | some false => evG C b false ρ h1 | none => .no)
  | .oeq c k ne a b, t, ρ, h => fin t ((evG C a false ρ h).bind fun x h1 => (evG C b false ρ h1).bind fun y h2 => if (insB c "__eq__" h2 x && (isInsP c h2 y).isSome) = true then (C k [x, y] h2).calm.bind fun v h3 => match v with
      | .bl r => .ok (.bl (if ne then !r else r)) h3
      | _ => .no
    else .no)
  | .deq a b, t, ρ, h => fin t ((evG C a false ρ h).bind fun x h1 => (evG C b false ρ h1).bind fun y h2 => ofO ((dEq2P h2 x y).map .bl) h2)
  | .isc c a, t, ρ, h => fin t ((evG C a false ρ h).bind fun x h1 => if insB c "" h1 x then .ok (.bl true) h1 else .no)
noncomputable def evGs (C : Calls) : List E → Env → PH → R (List PV)
  | [], _, h => .ok [] h
  | e :: es, ρ, h => (evG C e false ρ h).bind fun x h1 => (evGs C es ρ h1).bind fun l h2 => .ok (x :: l) h2
noncomputable def evGo (C : Calls) : Option E → Env → PH → R (Option Int)
  | none, _, h => .ok none h
  | some e, ρ, h => (evG C e false ρ h).bind fun x h1 => match x with | .int i => .ok (some i) h1 | _ => .no
noncomputable def evGc (C : Calls) : Option E → Env → PH → R Bool
  | none, _, h => .ok true h
  | some e, ρ, h => asB (evG C e true ρ h)
end
noncomputable abbrev evE (C : Calls) (e : E) : Env → PH → R PV := evG C e false
noncomputable def evT (C : Calls) (e : E) (ρ : Env) (h : PH) : R Bool := asB (evG C e true ρ h)
/-- a op= b: ints and texts -/
def iopF (op : Operator) (a b : PV) (h : PH) : R PV := match op, a, b with
  | .Add, .int i, .int j => .ok (.int (i + j)) h
  | .Sub, .int i, .int j => .ok (.int (i - j)) h
  | .Add, .str x, .str y => if zaq (x.length + y.length) then .ok (.str (x ++ y)) h else .no
  | _, _, _ => .no
/-- o[i] of a list of the heap -/
def getL (a i : PV) (h : PH) : R PV := match a, i with
  | .ref n, .int i => if 0 ≤ i then (match h[n]? with | some (.lst l) => ofO l[i.toNat]? h | _ => .no) else .no
  | _, _ => .no
/-- a target is stored -/
noncomputable def stTg (C : Calls) : Tgt → PV → Env → PH → RS
  | .nm i, v, ρ, h => .nx (ρ.set i (some v)) h
  | .tup is, .tup l, ρ, h => match setAll ρ is l with | some ρ' => .nx ρ' h | none => .no
  | .tup _, _, _, _ => .no
  | .unl is, .ref n, ρ, h => match h[n]? with | some (.lst l) => (match setAll ρ is l with | some ρ' => .nx ρ' h | none => .no) | _ => .no
  | .unl _, _, _, _ => .no
  | .sub o i, v, ρ, h => (evE C o ρ h).st ρ fun x h1 => (evE C i ρ h1).st ρ fun y h2 => match zbo x y v h2 with | some h3 => .nx ρ h3 | none => .no
  | .ust is, .tup l, ρ, h => if is.length ≤ l.length + 1 ∧ l.length ≤ 1000 then (match is.getLast? with
      | some j => (match setAll ρ is.dropLast (l.take (is.length - 1)) with
        | some ρ' => .nx (ρ'.set j (some (.ref h.length))) (h ++ [.lst (l.drop (is.length - 1))])
        | none => .no)
      | none => .no) else .no
  | .ust _, _, _, _ => .no
  | .sub2 o i o2 i2, .tup [v, w], ρ, h => (evE C o ρ h).st ρ fun x h1 => (evE C i ρ h1).st ρ fun y h2 => match zbo x y v h2 with
      | some h3 => (evE C o2 ρ h3).st ρ fun x2 h4 => (evE C i2 ρ h4).st ρ fun y2 h5 => match zbo x2 y2 w h5 with | some h6 => .nx ρ h6 | none => .no
      | none => .no
  | .sub2 _ _ _ _, _, _, _ => .no
  | .fld c f o, v, ρ, h => (evE C o ρ h).st ρ fun x h1 => match setfld c f x v h1 with | some h2 => .nx ρ h2 | none => .no
/-- no handled exception is left behind -/
def coolE (ρ ρ1 : Env) : Prop := ∀ (n : Nat) (p : PV), ρ1[n]? = some (some p) → ρ[n]? = some (some p) ∨ coldV p = true
def coolH (h h1 : PH) : Prop := ∀ (n : Nat) (o : PO), h1[n]? = some o → h[n]? = some o ∨ coldO o = true
def setO (ρ : Env) (i : Option Nat) (v : Option PV) : Env := match i with | some i => ρ.set i v | none => ρ
open Classical in
noncomputable def coolS (i : Option Nat) (ρ : Env) (h : PH) : RS → RS
  | .nx ρ1 h1 => if coolE ρ (setO ρ1 i none) ∧ coolH h h1 then .nx (setO ρ1 i none) h1 else .no
  | .rt v h1 => if coldV v = true ∧ coolH h h1 then .rt v h1 else .no
  | _ => .no
mutual
noncomputable def exS (C : Calls) : S → Env → PH → RS
  | .asg g e, ρ, h => (evE C e ρ h).st ρ fun v h1 => stTg C g v ρ h1
  | .aug i op e, ρ, h => match ρ.get i with
    | some x => (evE C e ρ h).st ρ fun y h1 => (iopF op x y h1).st ρ fun z h2 => .nx (ρ.set i (some z)) h2
    | none => .no
  | .augs o i op e, ρ, h => (evE C o ρ h).st ρ fun ov h1 => (evE C i ρ h1).st ρ fun iv h2 => (getL ov iv h2).st ρ fun x h3 => (evE C e ρ h3).st ρ fun y h4 => (iopF op x y h4).st ρ fun z h5 => match zbo ov iv z h5 with | some h6 => .nx ρ h6 | none => .no
  | .augf c f o op e, ρ, h => (evE C o ρ h).st ρ fun ov h1 => (fldop c f ov h1).st ρ fun x h2 => (evE C e ρ h2).st ρ fun y h3 => (iopF op x y h3).st ρ fun z h4 => match setfld c f ov z h4 with | some h5 => .nx ρ h5 | none => .no
  | .ifs t a b, ρ, h => (evT C t ρ h).st ρ fun c h1 => if c then exSs C a ρ h1 else exSs C b ρ h1
  | .whl t b, ρ, h => whileF (fun ρ h => evT C t ρ h) (fun ρ h => exSs C b ρ h) ρ h
  | .fr tg one k its b, ρ, h => (evGs C its ρ h).st ρ fun l h1 => match walkF k l h1 with
      | some (items, kp) => forLoop kp (fun ρ x => zbp ρ tg one x) (fun ρ h => exSs C b ρ h) items ρ h1
      | none => .no
  | .ret e, ρ, h => (evE C e ρ h).st ρ fun v h1 => .rt v h1
  | .ret0, _, h => .rt .non h
  | .ex e, ρ, h => (evE C e ρ h).st ρ fun _ h1 => .nx ρ h1
  | .pass, ρ, h => .nx ρ h
  | .brk, ρ, h => .bk ρ h
  | .cont, ρ, h => .ct ρ h
  | .raise x ns es, ρ, h => (evGs C es ρ h).st ρ fun l h1 => .ex ⟨x, ns, l.reverse⟩ ρ h1
  | .tryN b c xs s, ρ, h => match exSs C b ρ h with
    | .ex x ρ1 h1 => if x.cls ∈ xs then (if x.cls = c then exSs C s ρ1 h1 else .ex x ρ1 h1) else .no
    | r => r
  | .tryA b c xs fi i j lit ns fs exs, ρ, h => match exSs C b ρ h with
    | .ex x ρ1 h1 => if x.cls ∈ xs then (if x.cls = c then (match C fi [.xc x.cls [] []] [], mapO (fun f => (x.ns.zip x.vs).lookup f) fs with
      | .ok (.bl true) _, some vs => if x.ns = ns ∧ i < ρ1.length then .nx ((ρ1.set j (some (.tup (.str lit :: vs ++ exs)))).set i none) h1 else .no
      | _, _ => .no) else .ex x ρ1 h1) else .no
    | r => r
  | .hole, _, _ => .no
  | .asgT o ks e, ρ, h => (evE C e ρ h).st ρ fun v h1 => (evE C o ρ h1).st ρ fun x h2 => (evGs C ks ρ h2).st ρ fun l h3 => match setQ x l v h3 with | some h4 => .nx ρ h4 | none => .no
  | .hd _ _ _, _, _ => .no
  | .tryH b xs hs, ρ, h => match exSs C b ρ h with
    | .ex x ρ1 h1 => if x.cls ∈ xs then exH C hs x ρ1 h1 else .no
    | r => r
noncomputable def exH (C : Calls) : List S → Exn → Env → PH → RS
  | [], x, ρ, h => .ex x ρ h
  | .hd c i b :: r, x, ρ, h => if hitX x.cls c then coolS i ρ h (exSs C b (setO ρ i (some (.xc x.cls x.ns x.vs))) h) else exH C r x ρ h
  | _, _, _, _ => .no
noncomputable def exSs (C : Calls) : List S → Env → PH → RS
  | [], ρ, h => .nx ρ h
  | s :: r, ρ, h => (exS C s ρ h).seq fun ρ1 h1 => exSs C r ρ1 h1
end
/-- a def's body at its arguments -/
def zax (ns : Nat) (vs : List PV) : Env := vs.map some ++ List.replicate (ns - vs.length) none
def RS.toR : RS → R PV
  | .nx _ h => .ok .non h
  | .rt v h => .ok v h
  | .ex x _ h => .ex x h
  | _ => .no
noncomputable def runFn (C : Calls) (f : Fn) (vs : List PV) (h : PH) : R PV := if vs.length = f.np then (exSs C f.body (zax f.ns vs) h).toR else .no
noncomputable def call (tbl : Nat → Fn) : Nat → Calls
  | 0 => fun _ _ _ => .no
  | k + 1 => fun f vs h => runFn (call tbl k) (tbl f) vs h
end Sb
namespace Sb
open PySem L2
/-- what the lying of plain values leans on: the written part, the exceptions that are handled -/
structure ZZ where
  K : PySem.W.Frag
  pn : List (Addr × Obj)
  P : Program
  w : World
def hotPn (X : Cx) : List (Addr × Obj) := match X.calm with | true => [] | false => X.pn.take 1
abbrev zOf (X : Cx) : ZZ := ⟨X.K, hotPn X, X.prog, X.w⟩
theorem z_calm {X : Cx} (h : X.calm = true) : zOf X = ⟨X.K, [], X.prog, X.w⟩ := by
  unfold zOf hotPn
  rw [h]
/-- a list, a tuple of the written part -/
def KL (K : PySem.W.Frag) (a : Addr) (xs : List V) : Prop := ∃ (o : Obj) (its : Array Value) (n : Nat), K.lookup a = some o ∧ o.cls = .type "list" ∧ o.dict = none ∧ o.data = .seq its n ∧ its.size ≤ sizeLine ∧ Vals xs its.toList
def KT (K : PySem.W.Frag) (a : Addr) (xs : List V) : Prop := ∃ (o : Obj) (its : Array Value) (n : Nat), K.lookup a = some o ∧ o.cls = .type "tuple" ∧ o.data = .seq its n ∧ its.size ≤ sizeLine ∧ Vals xs its.toList
def LstAt (K : ZZ) (φ : List Addr) (H : Hp) (a : Addr) (xs : List V) : Prop := ((∃ o, H a = some (.frz o (.lst xs))) ∧ a ∉ φ) ∨ KL K.K a xs
def TupAt (K : ZZ) (φ : List Addr) (H : Hp) (a : Addr) (xs : List V) : Prop := (Rd H a (.tup xs) ∧ a ∉ φ) ∨ KT K.K a xs
theorem LstAt.sq {K : ZZ} {φ : List Addr} {H : Hp} {a : Addr} {xs : List V} (h : LstAt K φ H a xs) : SqL K.K H a xs := h.elim (fun z => .inl (.inr z.1)) .inr
theorem TupAt.sq {K : ZZ} {φ : List Addr} {H : Hp} {a : Addr} {xs : List V} (h : TupAt K φ H a xs) : SqT K.K H a xs := h.elim (fun z => .inl z.1) .inr
mutual
def RV (K : ZZ) (φ : List Addr) (H : Hp) : PV → V → Prop
  | .non, v => v = .non
  | .bl b, v => v = .bl b
  | .int i, v => v = .int i
  | .str x, v => v = .str x
  | .ty t, v => v = .ty t.nm
  | .ref n, v => ∃ a, v = .ref a ∧ φ[n]? = some a
  | .tup l, v => ∃ a vs, v = .ref a ∧ TupAt K φ H a vs ∧ RVs K φ H l vs
  | .cl l, v => ∃ a vs, v = .ref a ∧ LstAt K φ H a vs ∧ RVs K φ H l vs
  | .cls x, v => v = if x = "ValueError" then .ty "ValueError" else .ref (He.ga K.K x)
  | .xc x ns l, v => ∃ a oe, v = .ref a ∧ (a, oe) ∈ K.pn ∧ oe.cls = .ref (He.ga K.K x) ∧ (∃ vs, oe.data = .fields vs) ∧ ((oe.dict = none ∧ ns = []) ∨ ∃ dd fs us, oe.dict = some dd ∧ H dd = some (.xd fs) ∧ dd ∉ φ ∧ (ns = [] ∨ (fs.map (·.1) = ns ∧ fs.map (·.2) = us)) ∧ RVs K φ H l us)
  | .ste l, v => ∃ a, v = .ref a ∧ H a = some (SetK K.P K.w a (fun k => l.any fun j => decide (j = k)) l.length) ∧ a ∉ φ ∧ l.Nodup
  | .exv x ns l, v => ∃ a us, v = .ref a ∧ a ∉ φ ∧ ((H a = some (ExO (.ref (He.ga K.K x)) a) ∧ ns = []) ∨ ∃ dd fs, H a = some (exo a (He.ga K.K x) (some dd)) ∧ H dd = some (exd dd fs) ∧ dd ∉ φ ∧ fs.map (·.1) = ns ∧ fs.map (·.2) = us) ∧ RVs K φ H l us
def RVs (K : ZZ) (φ : List Addr) (H : Hp) : List PV → List V → Prop
  | [], vs => vs = []
  | p :: ps, vs => ∃ v r, vs = v :: r ∧ RV K φ H p v ∧ RVs K φ H ps r
end
def RO (K : ZZ) (φ : List Addr) (H : Hp) : PO → HO → Prop
  | .lst l, o => ∃ vs, o = .lst vs ∧ RVs K φ H l vs
  | .dct l, o => ∃ kvs, o = .dK kvs ∧ kvs.map (·.1) = l.map (·.1) ∧ RVs K φ H (l.map (·.2)) (kvs.map (·.2))
  | .obj c fs, o => ∃ dx kvs, o = .ins (He.ga K.K c) dx kvs ∧ kvs.map (·.1) = fs.map (·.1) ∧ RVs K φ H (fs.map (·.2)) (kvs.map (·.2))
  | .dtp l, o => ∃ kvs, o = .dT kvs ∧ kvs.map (·.1) = l.map (·.1) ∧ RVs K φ H (l.map (·.2)) (kvs.map (·.2))
/-- the plain heap h lies at the addresses φ -/
structure Sim (K : ZZ) (φ : List Addr) (h : PH) (H : Hp) : Prop where
  len : φ.length = h.length
  nd : φ.Nodup
  ob : ∀ (n : Nat) (o : PO), h[n]? = some o → ∃ a ho, φ[n]? = some a ∧ H a = some ho ∧ RO K φ H o ho
  tb : LamX.Tabs (tabsOf K.K) H
/-- what may have changed: the objects at φ, and new ones -/
structure Ext (φ φ' : List Addr) (H H' : Hp) : Prop where
  pre : ∃ t, φ' = φ ++ t
  keep : ∀ a o, H a = some o → a ∉ φ → (∀ ps, o ≠ .tbl ps) → H' a = some o
  fresh : ∀ a, a ∈ φ' → a ∉ φ → ∀ o, H a = some o → ∃ ps, o = .tbl ps
theorem Ext.refl (φ : List Addr) (H : Hp) : Ext φ φ H H := ⟨⟨[], by simp⟩, fun _ _ e _ _ => e, fun _ h n => absurd h n⟩
theorem Ext.mem {φ φ' : List Addr} {H H' : Hp} (x : Ext φ φ' H H') {a : Addr} (h : a ∈ φ) : a ∈ φ' := by
  obtain ⟨t, e⟩ := x.pre
  rw [e]
  exact List.mem_append_left _ h
theorem Ext.trans {φ φ1 φ2 : List Addr} {H H1 H2 : Hp} (x : Ext φ φ1 H H1) (y : Ext φ1 φ2 H1 H2) : Ext φ φ2 H H2 := by
  obtain ⟨t, e⟩ := x.pre
  obtain ⟨u, e'⟩ := y.pre
  refine ⟨⟨t ++ u, by rw [e', e, List.append_assoc]⟩, fun a o q n nt => ?_, fun a h n o q => ?_⟩
  · refine y.keep a o (x.keep a o q n nt) (fun z => ?_) nt
    obtain ⟨ps, e⟩ := x.fresh a z n o q
    exact nt ps e
  · by_cases z : a ∈ φ1
    · exact x.fresh a z n o q
    · by_cases nt : ∀ ps, o ≠ .tbl ps
      · exact y.fresh a h z o (x.keep a o q n nt)
      · obtain ⟨ps, ep⟩ := Classical.not_forall.mp nt
        exact ⟨ps, Classical.not_not.mp ep⟩
theorem Ext.at {φ φ' : List Addr} {H H' : Hp} (x : Ext φ φ' H H') {n : Nat} {a : Addr} (h : φ[n]? = some a) : φ'[n]? = some a := by
  obtain ⟨t, e⟩ := x.pre
  rw [e, List.getElem?_append_left (List.getElem?_eq_some_iff.mp h).1]
  exact h
/-- what plain values lean on: tuples and locked things stay, places stay -/
def isFix : HO → Bool
  | .tup _ => true
  | .frz _ _ => true
  | .xd _ => true
  | .ext _ => true
  | _ => false
structure Kp (φ φ' : List Addr) (H H' : Hp) : Prop where
  pl : ∀ (n : Nat) (a : Addr), φ[n]? = some a → φ'[n]? = some a
  fx : ∀ a o, isFix o = true → H a = some o → a ∉ φ → H' a = some o ∧ a ∉ φ'
theorem fix_ntbl {o : HO} (f : isFix o = true) : ∀ ps, o ≠ .tbl ps := fun ps z => by
  subst z
  cases f
theorem Ext.kp {φ φ' : List Addr} {H H' : Hp} (x : Ext φ φ' H H') : Kp φ φ' H H' := ⟨fun _ _ => x.at, fun a o f e n => ⟨x.keep a o e n (fix_ntbl f), fun m => by
  obtain ⟨ps, z⟩ := x.fresh a m n o e
  exact fix_ntbl f ps z⟩⟩
section
variable {K : ZZ} {φ φ' : List Addr} {H H' : Hp}
theorem TupAt.monoK {a : Addr} {xs : List V} (x : Kp φ φ' H H') (h : TupAt K φ H a xs) : TupAt K φ' H' a xs := by
  rcases h with ⟨q | ⟨o, q⟩, n⟩ | h
  · exact .inl ⟨.inl (x.fx a _ rfl q n).1, (x.fx a _ rfl q n).2⟩
  · exact .inl ⟨.inr ⟨o, (x.fx a _ rfl q n).1⟩, (x.fx a _ rfl q n).2⟩
  · exact .inr h
theorem LstAt.monoK {a : Addr} {xs : List V} (x : Kp φ φ' H H') (h : LstAt K φ H a xs) : LstAt K φ' H' a xs := by
  rcases h with ⟨⟨o, q⟩, n⟩ | h
  · exact .inl ⟨⟨o, (x.fx a _ rfl q n).1⟩, (x.fx a _ rfl q n).2⟩
  · exact .inr h
theorem TupAt.mono {a : Addr} {xs : List V} (x : Ext φ φ' H H') (h : TupAt K φ H a xs) : TupAt K φ' H' a xs := h.monoK x.kp
theorem LstAt.mono {a : Addr} {xs : List V} (x : Ext φ φ' H H') (h : LstAt K φ H a xs) : LstAt K φ' H' a xs := h.monoK x.kp
mutual
theorem RV.monoK (x : Kp φ φ' H H') : ∀ {p : PV} {v : V}, RV K φ H p v → RV K φ' H' p v
  | .non, _, h => h
  | .bl _, _, h => h
  | .int _, _, h => h
  | .str _, _, h => h
  | .ty _, _, h => h
  | .ref n, v, h => by
    obtain ⟨a, e, q⟩ := h
    exact ⟨a, e, x.pl n a q⟩
  | .tup l, v, h => by
    obtain ⟨a, vs, e, q, r⟩ := h
    exact ⟨a, vs, e, q.monoK x, RVs.monoK x r⟩
  | .cl l, v, h => by
    obtain ⟨a, vs, e, q, r⟩ := h
    exact ⟨a, vs, e, q.monoK x, RVs.monoK x r⟩
  | .cls _, _, h => h
  | .xc _ _ l, v, h => by
    obtain ⟨a, oe, e, q, c, n, d⟩ := h
    refine ⟨a, oe, e, q, c, n, d.imp id ?_⟩
    rintro ⟨dd, fs, us, d1, d2, d3, d4, d5⟩
    exact ⟨dd, fs, us, d1, (x.fx dd _ rfl d2 d3).1, (x.fx dd _ rfl d2 d3).2, d4, RVs.monoK x d5⟩
  | .ste l, v, h => by
    obtain ⟨a, e, q, n, d⟩ := h
    exact ⟨a, e, (x.fx a _ rfl q n).1, (x.fx a _ rfl q n).2, d⟩
  | .exv _ _ l, v, h => by
    obtain ⟨a, us, e, n, d, r⟩ := h
    rcases d with ⟨q, z⟩ | ⟨dd, fs, q, q2, n2, z1, z2⟩
    · exact ⟨a, us, e, (x.fx a _ rfl q n).2, .inl ⟨(x.fx a _ rfl q n).1, z⟩, RVs.monoK x r⟩
    · exact ⟨a, us, e, (x.fx a _ rfl q n).2, .inr ⟨dd, fs, (x.fx a _ rfl q n).1, (x.fx dd _ rfl q2 n2).1, (x.fx dd _ rfl q2 n2).2, z1, z2⟩, RVs.monoK x r⟩
theorem RVs.monoK (x : Kp φ φ' H H') : ∀ {p : List PV} {v : List V}, RVs K φ H p v → RVs K φ' H' p v
  | [], _, h => h
  | p :: ps, vs, h => by
    obtain ⟨v, r, e, q, s⟩ := h
    exact ⟨v, r, e, RV.monoK x q, RVs.monoK x s⟩
end
theorem RV.mono (x : Ext φ φ' H H') {p : PV} {v : V} (h : RV K φ H p v) : RV K φ' H' p v := h.monoK x.kp
theorem RVs.mono (x : Ext φ φ' H H') {p : List PV} {v : List V} (h : RVs K φ H p v) : RVs K φ' H' p v := h.monoK x.kp
theorem RO.monoK (x : Kp φ φ' H H') {o : PO} {ho : HO} (h : RO K φ H o ho) : RO K φ' H' o ho := by
  cases o with
  | lst l =>
    obtain ⟨vs, e, r⟩ := h
    exact ⟨vs, e, r.monoK x⟩
  | dct l =>
    obtain ⟨kvs, e, k, r⟩ := h
    exact ⟨kvs, e, k, r.monoK x⟩
  | obj c fs =>
    obtain ⟨dx, kvs, e, k, r⟩ := h
    exact ⟨dx, kvs, e, k, r.monoK x⟩
  | dtp l =>
    obtain ⟨kvs, e, k, r⟩ := h
    exact ⟨kvs, e, k, r.monoK x⟩
theorem RO.mono (x : Ext φ φ' H H') {o : PO} {ho : HO} (h : RO K φ H o ho) : RO K φ' H' o ho := h.monoK x.kp
theorem RVs.nil : RVs K φ H [] [] := rfl
theorem RVs.cons {p : PV} {v : V} {ps : List PV} {vs : List V} (h : RV K φ H p v) (r : RVs K φ H ps vs) : RVs K φ H (p :: ps) (v :: vs) := ⟨v, vs, rfl, h, r⟩
theorem RVs.length : ∀ {ps : List PV} {vs : List V}, RVs K φ H ps vs → ps.length = vs.length
  | [], vs, h => by
    have e : vs = [] := h
    rw [e]
    rfl
  | p :: ps, vs, h => by
    obtain ⟨v, r, e, _, s⟩ := h
    rw [e, List.length_cons, List.length_cons, RVs.length s]
theorem RVs.get : ∀ {ps : List PV} {vs : List V} {i : Nat} {p : PV}, RVs K φ H ps vs → ps[i]? = some p → ∃ v, vs[i]? = some v ∧ RV K φ H p v
  | [], _, _, _, _, e => by simp at e
  | p :: ps, vs, 0, q, h, e => by
    obtain ⟨v, r, e', s, _⟩ := h
    simp at e
    subst e
    exact ⟨v, by rw [e']; rfl, s⟩
  | p :: ps, vs, i + 1, q, h, e => by
    obtain ⟨v, r, e', _, s⟩ := h
    obtain ⟨w, f, g⟩ := RVs.get (i := i) s (by simpa using e)
    exact ⟨w, by rw [e']; simpa using f, g⟩
theorem RVs.append : ∀ {ps qs : List PV} {vs ws : List V}, RVs K φ H ps vs → RVs K φ H qs ws → RVs K φ H (ps ++ qs) (vs ++ ws)
  | [], _, vs, _, h, r => by
    rw [show vs = [] from h]
    exact r
  | p :: ps, qs, vs, ws, h, r => by
    obtain ⟨v, t, e, q, s⟩ := h
    rw [e]
    exact ⟨v, t ++ ws, rfl, q, RVs.append s r⟩
theorem RVs.set : ∀ {ps : List PV} {vs : List V} {p : PV} {v : V} (i : Nat), RV K φ H p v → RVs K φ H ps vs → RVs K φ H (ps.set i p) (vs.set i v)
  | [], vs, _, _, _, _, h => by
    rw [show vs = [] from h]
    exact rfl
  | q :: ps, vs, p, v, 0, hp, h => by
    obtain ⟨w, t, e, q, s⟩ := h
    rw [e]
    exact ⟨v, t, rfl, hp, s⟩
  | q :: ps, vs, p, v, i + 1, hp, h => by
    obtain ⟨w, t, e, q, s⟩ := h
    rw [e]
    exact ⟨w, t.set i v, rfl, q, RVs.set i hp s⟩
theorem RVs.erase : ∀ {ps : List PV} {vs : List V} (i : Nat), RVs K φ H ps vs → RVs K φ H (ps.eraseIdx i) (vs.eraseIdx i)
  | [], vs, _, h => by
    rw [show vs = [] from h]
    exact rfl
  | q :: ps, vs, 0, h => by
    obtain ⟨w, t, e, q, s⟩ := h
    rw [e]
    exact s
  | q :: ps, vs, i + 1, h => by
    obtain ⟨w, t, e, q, s⟩ := h
    rw [e]
    exact ⟨w, t.eraseIdx i, rfl, q, RVs.erase i s⟩
theorem RVs.take : ∀ {ps : List PV} {vs : List V} (i : Nat), RVs K φ H ps vs → RVs K φ H (ps.take i) (vs.take i)
  | _, _, 0, _ => by rw [List.take_zero, List.take_zero]; exact rfl
  | [], vs, i + 1, h => by
    rw [show vs = [] from h]
    exact rfl
  | q :: ps, vs, i + 1, h => by
    obtain ⟨w, t, e, q, s⟩ := h
    rw [e]
    exact ⟨w, t.take i, rfl, q, RVs.take i s⟩
theorem RVs.drop : ∀ {ps : List PV} {vs : List V} (i : Nat), RVs K φ H ps vs → RVs K φ H (ps.drop i) (vs.drop i)
  | _, _, 0, h => h
  | [], vs, i + 1, h => by
    rw [show vs = [] from h]
    exact rfl
  | q :: ps, vs, i + 1, h => by
    obtain ⟨w, t, e, q, s⟩ := h
    rw [e]
    exact RVs.drop i s
/-- all is as it was at φ, and the plain heap the same -/
theorem Sim.mem {h : PH} (s : Sim K φ h H) {a : Addr} (m : a ∈ φ) : ∃ ho, H a = some ho := by
  obtain ⟨n, hn, e⟩ := List.mem_iff_getElem.mp m
  have hn' : n < h.length := by rw [← s.len]; exact hn
  obtain ⟨a', ho, e1, e2, _⟩ := s.ob n h[n] (List.getElem?_eq_getElem hn')
  rw [List.getElem?_eq_getElem hn] at e1
  have : a = a' := by rw [← e]; exact Option.some.inj e1
  exact ⟨ho, by rw [this]; exact e2⟩
theorem Sim.out {h : PH} (s : Sim K φ h H) {a : Addr} (n : H a = none) : a ∉ φ := fun m => by
  obtain ⟨ho, e⟩ := s.mem m
  rw [n] at e
  cases e
/-- tables and code objects stay -/
theorem tabs_keep {T : List (Addr × Str)} (k : ∀ b o, H b = some o → ((∃ ps, o = .tbl ps) ∨ ∃ f, o = .ext f) → H' b = some o) (t : LamX.Tabs T H) : LamX.Tabs T H' := fun p hp => by
  obtain ⟨ps, e1, e2, e3⟩ := t p hp
  refine ⟨ps, k _ _ e1 (.inl ⟨ps, rfl⟩), e2, fun pos cv hc => ?_⟩
  obtain ⟨c, f1, f2⟩ := e3 pos cv hc
  exact ⟨c, f1, k _ _ f2 (.inr ⟨_, rfl⟩)⟩
theorem tabs_upd {T : List (Addr × Str)} {a : Addr} {u : HO} (ha : ∀ o, H a = some o → (∀ ps, o ≠ .tbl ps) ∧ ∀ f, o ≠ .ext f) (t : LamX.Tabs T H) : LamX.Tabs T (upd H a u) := tabs_keep (fun b o e z => by
  have n : b ≠ a := fun q => by
    subst q
    obtain ⟨h1, h2⟩ := ha o e
    rcases z with ⟨ps, z⟩ | ⟨f, z⟩
    · exact h1 ps z
    · exact h2 f z
  rw [upd_ne n]
  exact e) t
/-- an object of the plain heap is no table -/
theorem RO.plain {o : PO} {ho : HO} (r : RO K φ H o ho) : (∀ ps, ho ≠ .tbl ps) ∧ ∀ f, ho ≠ .ext f := by
  cases o with
  | lst l =>
    obtain ⟨vs, e, _⟩ := r
    subst e
    exact ⟨fun _ z => (by cases z), fun _ z => (by cases z)⟩
  | dct l =>
    obtain ⟨vs, e, _⟩ := r
    subst e
    exact ⟨fun _ z => (by cases z), fun _ z => (by cases z)⟩
  | obj c fs =>
    obtain ⟨dx, kvs, e, _⟩ := r
    subst e
    exact ⟨fun _ z => (by cases z), fun _ z => (by cases z)⟩
  | dtp l =>
    obtain ⟨vs, e, _⟩ := r
    subst e
    exact ⟨fun _ z => (by cases z), fun _ z => (by cases z)⟩
theorem Sim.plain {h : PH} (s : Sim K φ h H) {a : Addr} (m : a ∈ φ) : ∀ o, H a = some o → (∀ ps, o ≠ .tbl ps) ∧ ∀ f, o ≠ .ext f := fun o eo => by
  obtain ⟨n, hn, e⟩ := List.mem_iff_getElem.mp m
  have hn' : n < h.length := by rw [← s.len]; exact hn
  obtain ⟨a', ho, e1, e2, r⟩ := s.ob n h[n] (List.getElem?_eq_getElem hn')
  rw [List.getElem?_eq_getElem hn] at e1
  have : a = a' := by rw [← e]; exact Option.some.inj e1
  subst this
  rw [eo] at e2
  cases e2
  exact r.plain
theorem none_plain {a : Addr} (n : H a = none) : ∀ o, H a = some o → (∀ ps, o ≠ .tbl ps) ∧ ∀ f, o ≠ .ext f := fun o e => by
  rw [n] at e
  cases e
theorem lst_plain {a : Addr} {vs : List V} (n : H a = some (.lst vs)) : ∀ o, H a = some o → (∀ ps, o ≠ .tbl ps) ∧ ∀ f, o ≠ .ext f := fun o e => by
  rw [n] at e
  cases e
  exact ⟨fun _ z => (by cases z), fun _ z => (by cases z)⟩
/-- a new thing that is not of the plain heap -/
theorem Ext.new {p : Addr} {o : HO} (n : H p = none) : Ext φ φ H (upd H p o) := ⟨⟨[], by simp⟩, fun a u e _ _ => by rw [upd_ne (ne_of_none e n)]; exact e, fun _ h z => absurd h z⟩
theorem Sim.new {h : PH} {p : Addr} {o : HO} (s : Sim K φ h H) (n : H p = none) : Sim K φ h (upd H p o) := ⟨s.len, s.nd, fun m u e => by
  obtain ⟨a, ho, e1, e2, r⟩ := s.ob m u e
  exact ⟨a, ho, e1, by rw [upd_ne (ne_of_none e2 n)]; exact e2, r.mono (Ext.new n)⟩, tabs_upd (none_plain n) s.tb⟩
/-- a new object of the plain heap -/
theorem Ext.push {p : Addr} {o : HO} (n : H p = none) : Ext φ (φ ++ [p]) H (upd H p o) := ⟨⟨[p], rfl⟩, fun a u e _ _ => by rw [upd_ne (ne_of_none e n)]; exact e, fun a h z => by
  rcases List.mem_append.mp h with h | h
  · exact absurd h z
  · intro o e
    rw [List.mem_singleton.mp h, n] at e
    cases e⟩
theorem Sim.pushO {h : PH} {p : Addr} {o : PO} {ho : HO} (s : Sim K φ h H) (n : H p = none) (r : RO K φ H o ho) : Sim K (φ ++ [p]) (h ++ [o]) (upd H p ho) := by
  have x : Ext φ (φ ++ [p]) H (upd H p ho) := Ext.push n
  refine ⟨by rw [List.length_append, List.length_append, s.len]; rfl, ?_, fun m u e => ?_, tabs_upd (none_plain n) s.tb⟩
  · rw [List.nodup_append]
    refine ⟨s.nd, by simp, fun a ha b hb => ?_⟩
    rw [List.mem_singleton.mp hb]
    intro z
    exact s.out n (z ▸ ha)
  · by_cases hm : m < h.length
    · rw [List.getElem?_append_left hm] at e
      obtain ⟨a, ho, e1, e2, r'⟩ := s.ob m u e
      exact ⟨a, ho, x.at e1, by rw [upd_ne (ne_of_none e2 n)]; exact e2, r'.mono x⟩
    · have em : m = h.length := by
        have := (List.getElem?_eq_some_iff.mp e).1
        rw [List.length_append] at this
        simp at this
        omega
      subst em
      rw [List.getElem?_append_right (Nat.le_refl _), Nat.sub_self] at e
      have eu : o = u := Option.some.inj e
      subst eu
      refine ⟨p, ho, ?_, upd_same, r.mono x⟩
      rw [List.getElem?_append_right (by rw [s.len]; exact Nat.le_refl _), s.len, Nat.sub_self]
      rfl
theorem Sim.push {h : PH} {p : Addr} {l : List PV} {vs : List V} (s : Sim K φ h H) (n : H p = none) (r : RVs K φ H l vs) : Sim K (φ ++ [p]) (h ++ [.lst l]) (upd H p (.lst vs)) := s.pushO n (o := .lst l) ⟨vs, rfl, r⟩
/-- an object of the plain heap is changed -/
theorem Ext.write {h : PH} {a : Addr} {o : HO} (s : Sim K φ h H) (m : a ∈ φ) : Ext φ φ H (upd H a o) := ⟨⟨[], by simp⟩, fun b u e n _ => by
  have z : b ≠ a := fun z => n (by rw [z]; exact m)
  rw [upd_ne z]
  exact e, fun _ h z => absurd h z⟩
theorem nodup_at {l : List Addr} (nd : l.Nodup) {i j : Nat} {x : Addr} (a : l[i]? = some x) (b : l[j]? = some x) : i = j := by
  obtain ⟨h1, e1⟩ := List.getElem?_eq_some_iff.mp a
  obtain ⟨h2, e2⟩ := List.getElem?_eq_some_iff.mp b
  exact (List.getElem_inj nd).mp (e1.trans e2.symm)
theorem Sim.writeO {h : PH} {n : Nat} {a : Addr} {o : PO} {ho : HO} (s : Sim K φ h H) (e : φ[n]? = some a) (r : RO K φ H o ho) : Sim K φ (h.set n o) (upd H a ho) := by
  have x : Ext φ φ H (upd H a ho) := Ext.write s (List.mem_of_getElem? e)
  refine ⟨by rw [List.length_set, s.len], s.nd, fun m u q => ?_, tabs_upd (s.plain (List.mem_of_getElem? e)) s.tb⟩
  by_cases hm : m = n
  · subst hm
    have hl : m < h.length := by
      have := (List.getElem?_eq_some_iff.mp e).1
      rw [← s.len]
      exact this
    rw [List.getElem?_set_self hl] at q
    have eu : o = u := Option.some.inj q
    subst eu
    exact ⟨a, ho, e, upd_same, r.mono x⟩
  · rw [List.getElem?_set_ne (Ne.symm hm)] at q
    obtain ⟨b, ho, e1, e2, r'⟩ := s.ob m u q
    refine ⟨b, ho, e1, ?_, r'.mono x⟩
    rw [upd_ne]
    · exact e2
    · intro z
      subst z
      exact hm (nodup_at s.nd e1 e)
theorem Sim.write {h : PH} {n : Nat} {a : Addr} {l : List PV} {vs : List V} (s : Sim K φ h H) (e : φ[n]? = some a) (r : RVs K φ H l vs) : Sim K φ (h.set n (.lst l)) (upd H a (.lst vs)) := s.writeO e (o := .lst l) ⟨vs, rfl, r⟩
/-- a list that is not of the plain heap -/
theorem Kp.aside {D : Addr} {ws ws' : List V} (e : H D = some (.lst ws)) : Kp φ φ H (upd H D (.lst ws')) := ⟨fun _ _ q => q, fun a o f q n => ⟨by
  rw [upd_ne (fun z => by
    subst z
    rw [e] at q
    cases q
    cases f)]
  exact q, n⟩⟩
theorem Sim.aside {h : PH} {D : Addr} {ws ws' : List V} (s : Sim K φ h H) (e : H D = some (.lst ws)) (n : D ∉ φ) : Sim K φ h (upd H D (.lst ws')) := ⟨s.len, s.nd, fun m u q => by
  obtain ⟨a, ho, e1, e2, r⟩ := s.ob m u q
  refine ⟨a, ho, e1, ?_, r.monoK (Kp.aside e)⟩
  rw [upd_ne (fun z => n (by rw [← z]; exact List.mem_of_getElem? e1))]
  exact e2, tabs_upd (lst_plain e) s.tb⟩
theorem Ext.aside {D : Addr} {o : HO} (x : Ext φ φ' H H') (n : H D = none) : Ext φ φ' H (upd H' D o) := ⟨x.pre, fun a u e m nt => by
  rw [upd_ne (ne_of_none e n)]
  exact x.keep a u e m nt, x.fresh⟩
/-- .. it becomes one of the plain heap -/
theorem Kp.adopt {D : Addr} {ws : List V} (e : H D = some (.lst ws)) : Kp φ (φ ++ [D]) H H := ⟨fun n a q => by
  rw [List.getElem?_append_left (List.getElem?_eq_some_iff.mp q).1]
  exact q, fun a o f q n => ⟨q, fun m => by
  rcases List.mem_append.mp m with z | z
  · exact n z
  · rw [List.mem_singleton.mp z, e] at q
    cases q
    cases f⟩⟩
theorem Sim.adopt {h : PH} {D : Addr} {l : List PV} {ws : List V} (s : Sim K φ h H) (e : H D = some (.lst ws)) (n : D ∉ φ) (r : RVs K φ H l ws) : Sim K (φ ++ [D]) (h ++ [.lst l]) H := by
  have x : Kp φ (φ ++ [D]) H H := Kp.adopt e
  refine ⟨by rw [List.length_append, List.length_append, s.len]; rfl, ?_, fun m u q => ?_, s.tb⟩
  · rw [List.nodup_append]
    refine ⟨s.nd, by simp, fun a ha b hb => ?_⟩
    rw [List.mem_singleton.mp hb]
    intro z
    exact n (z ▸ ha)
  · by_cases hm : m < h.length
    · rw [List.getElem?_append_left hm] at q
      obtain ⟨a, ho, e1, e2, r'⟩ := s.ob m u q
      exact ⟨a, ho, x.pl m a e1, e2, r'.monoK x⟩
    · have em : m = h.length := by
        have := (List.getElem?_eq_some_iff.mp q).1
        rw [List.length_append] at this
        simp at this
        omega
      subst em
      rw [List.getElem?_append_right (Nat.le_refl _), Nat.sub_self] at q
      have eu : PO.lst l = u := Option.some.inj q
      subst eu
      refine ⟨D, .lst ws, ?_, e, ws, rfl, r.monoK x⟩
      rw [List.getElem?_append_right (by rw [s.len]; exact Nat.le_refl _), s.len, Nat.sub_self]
      rfl
theorem Ext.adopt {D : Addr} (x : Ext φ φ' H H') (n : H D = none) : Ext φ (φ' ++ [D]) H H' := ⟨by
  obtain ⟨t, e⟩ := x.pre
  exact ⟨t ++ [D], by rw [e, List.append_assoc]⟩, x.keep, fun a m z => by
  rcases List.mem_append.mp m with q | q
  · exact x.fresh a q z
  · intro o e
    rw [List.mem_singleton.mp q, n] at e
    cases e⟩
theorem Sim.lst {h : PH} {n : Nat} {l : List PV} (s : Sim K φ h H) (e : h[n]? = some (.lst l)) : ∃ a vs, φ[n]? = some a ∧ H a = some (.lst vs) ∧ RVs K φ H l vs := by
  obtain ⟨a, ho, e1, e2, vs, e3, r⟩ := s.ob n _ e
  subst e3
  exact ⟨a, vs, e1, e2, r⟩
theorem Sim.dct {h : PH} {n : Nat} {l : List (Key × PV)} (s : Sim K φ h H) (e : h[n]? = some (.dct l)) : ∃ a kvs, φ[n]? = some a ∧ H a = some (.dK kvs) ∧ kvs.map (·.1) = l.map (·.1) ∧ RVs K φ H (l.map (·.2)) (kvs.map (·.2)) := by
  obtain ⟨a, ho, e1, e2, kvs, e3, r⟩ := s.ob n _ e
  subst e3
  exact ⟨a, kvs, e1, e2, r⟩
/-- what a list, a tuple is in the abstract heap -/
theorem Sim.listV {h : PH} {p : PV} {v : V} {l : List PV} (s : Sim K φ h H) (r : RV K φ H p v) (e : listOf h p = some l) : ∃ a vs, v = .ref a ∧ SqL K.K H a vs ∧ RVs K φ H l vs := by
  cases p with
  | cl l' =>
    obtain ⟨a, vs, e1, q, r'⟩ := r
    cases e
    exact ⟨a, vs, e1, q.sq, r'⟩
  | ref n =>
    obtain ⟨a, e1, e2⟩ := r
    unfold listOf at e
    cases q : h[n]? with
    | none => simp only [q] at e; cases e
    | some o =>
      cases o with
      | lst l' =>
        simp only [q] at e
        cases e
        obtain ⟨a', vs, e3, e4, r'⟩ := s.lst q
        rw [e2] at e3
        cases e3
        exact ⟨a, vs, e1, SqL.of e4, r'⟩
      | dct l' => simp only [q] at e; cases e
      | obj c l' => simp only [q] at e; cases e
      | dtp l' => simp only [q] at e; cases e
  | _ => cases e
end
section
variable {K : ZZ} {φ φ' : List Addr} {H H' : Hp}
def RD {κ : Type} (K : ZZ) (φ : List Addr) (H : Hp) (l : List (κ × PV)) (kvs : List (κ × V)) : Prop := kvs.map (·.1) = l.map (·.1) ∧ RVs K φ H (l.map (·.2)) (kvs.map (·.2))
theorem RD.nil {κ : Type} : RD (κ := κ) K φ H [] [] := ⟨rfl, rfl⟩
theorem RD.cons {κ : Type} {k : κ} {p : PV} {v : V} {l : List (κ × PV)} {kvs : List (κ × V)} (h : RV K φ H p v) (r : RD K φ H l kvs) : RD K φ H ((k, p) :: l) ((k, v) :: kvs) := ⟨by simp [r.1], RVs.cons h r.2⟩
theorem RD.inv {κ : Type} {k : κ} {p : PV} {l : List (κ × PV)} {kvs : List (κ × V)} (r : RD K φ H ((k, p) :: l) kvs) : ∃ v t, kvs = (k, v) :: t ∧ RV K φ H p v ∧ RD K φ H l t := by
  cases kvs with
  | nil =>
    have := r.1
    simp at this
  | cons kv t =>
    obtain ⟨k', v⟩ := kv
    obtain ⟨r1, v', t', e, q, s⟩ := r
    simp at r1 e
    obtain ⟨rfl, r2⟩ := r1
    obtain ⟨rfl, rfl⟩ := e
    exact ⟨v, t, rfl, q, r2, s⟩
theorem RD.empty {κ : Type} {kvs : List (κ × V)} (r : RD K φ H [] kvs) : kvs = [] := by
  have := r.1
  simpa using this
theorem RD.monoK {κ : Type} (x : Kp φ φ' H H') {l : List (κ × PV)} {kvs : List (κ × V)} (r : RD K φ H l kvs) : RD K φ' H' l kvs := ⟨r.1, r.2.monoK x⟩
theorem RD.mono {κ : Type} (x : Ext φ φ' H H') {l : List (κ × PV)} {kvs : List (κ × V)} (r : RD K φ H l kvs) : RD K φ' H' l kvs := ⟨r.1, r.2.mono x⟩
theorem RD.length {κ : Type} {l : List (κ × PV)} {kvs : List (κ × V)} (r : RD K φ H l kvs) : l.length = kvs.length := by
  have := congrArg List.length r.1
  simpa using this.symm
theorem RD.val (k : Key) : ∀ {l : List (Key × PV)} {kvs : List (Key × V)}, RD K φ H l kvs → (valP l k = none ∧ valV kvs k = none) ∨ ∃ p v, valP l k = some p ∧ valV kvs k = some v ∧ RV K φ H p v
  | [], kvs, r => by
    rw [r.empty]
    exact .inl ⟨rfl, rfl⟩
  | (k', p) :: l, kvs, r => by
    obtain ⟨v, t, rfl, q, s⟩ := r.inv
    by_cases e : k' = k
    · exact .inr ⟨p, v, by simp [valP, e], valV_pos e, q⟩
    · rcases RD.val k s with ⟨h1, h2⟩ | ⟨p', v', h1, h2, h3⟩
      · exact .inl ⟨by simpa [valP, e] using h1, by rw [valV_neg e]; exact h2⟩
      · exact .inr ⟨p', v', by simpa [valP, e] using h1, by rw [valV_neg e]; exact h2, h3⟩
theorem RD.any (k : Key) {l : List (Key × PV)} {kvs : List (Key × V)} (r : RD K φ H l kvs) : (l.any fun kv => decide (kv.1 = k)) = kvs.any fun kv => decide (kv.1 = k) := by
  have e1 : (l.any fun kv => decide (kv.1 = k)) = (l.map (·.1)).any fun j => decide (j = k) := by rw [List.any_map]; rfl
  have e2 : (kvs.any fun kv => decide (kv.1 = k)) = (kvs.map (·.1)).any fun j => decide (j = k) := by rw [List.any_map]; rfl
  rw [e1, e2, r.1]
theorem RD.repl (k : Key) {p : PV} {v : V} (h : RV K φ H p v) : ∀ {l : List (Key × PV)} {kvs : List (Key × V)}, RD K φ H l kvs → RD K φ H (l.map fun kv => if kv.1 = k then (kv.1, p) else kv) (kvs.map fun kv => if kv.1 = k then (kv.1, v) else kv)
  | [], kvs, r => by
    rw [r.empty]
    exact RD.nil
  | (k', p') :: l, kvs, r => by
    obtain ⟨v', t, rfl, q, s⟩ := r.inv
    rw [List.map_cons, List.map_cons]
    by_cases e : k' = k
    · simp only [e, if_true]
      exact RD.cons h (RD.repl k h s)
    · simp only [e, if_false]
      exact RD.cons q (RD.repl k h s)
theorem RD.snoc (k : Key) {p : PV} {v : V} (h : RV K φ H p v) {l : List (Key × PV)} {kvs : List (Key × V)} (r : RD K φ H l kvs) : RD K φ H (l ++ [(k, p)]) (kvs ++ [(k, v)]) := ⟨by simp [r.1], by
  rw [List.map_append, List.map_append]
  exact r.2.append (RVs.cons h RVs.nil)⟩
theorem RD.put (k : Key) {p : PV} {v : V} (h : RV K φ H p v) {l : List (Key × PV)} {kvs : List (Key × V)} (r : RD K φ H l kvs) : RD K φ H (putP l k p) (putK kvs k v) := by
  unfold putP putK
  rw [r.any k]
  split
  · exact r.repl k h
  · exact r.snoc k h
theorem Sim.dctR {h : PH} {n : Nat} {l : List (Key × PV)} (s : Sim K φ h H) (e : h[n]? = some (.dct l)) : ∃ a kvs, φ[n]? = some a ∧ H a = some (.dK kvs) ∧ RD K φ H l kvs := s.dct e
theorem Sim.writeD {h : PH} {n : Nat} {a : Addr} {l : List (Key × PV)} {kvs : List (Key × V)} (s : Sim K φ h H) (e : φ[n]? = some a) (r : RD K φ H l kvs) : Sim K φ (h.set n (.dct l)) (upd H a (.dK kvs)) := s.writeO e (o := .dct l) ⟨kvs, rfl, r⟩
theorem key_rel {p : PV} {k : Key} {v : V} (r : RV K φ H p v) (e : keyOf p = some k) : v = kV k := by
  cases p with
  | int i =>
    cases e
    exact r
  | str x =>
    cases e
    exact r
  | _ => cases e
theorem keyP_rv (k : Key) : RV K φ H (keyP k) (kV k) := by
  cases k <;> exact rfl
theorem keysP_rv : ∀ (l : List Key), RVs K φ H (l.map keyP) (l.map kV)
  | [] => rfl
  | k :: l => RVs.cons (keyP_rv k) (keysP_rv l)
end
def RE (K : ZZ) (φ : List Addr) (H : Hp) : Env → St → Prop
  | [], σ => σ = []
  | p :: ρ, σ => ∃ v r, σ = v :: r ∧ (∀ x, p = some x → ∃ y, v = some y ∧ RV K φ H x y) ∧ RE K φ H ρ r
section
variable {K : ZZ} {φ φ' : List Addr} {H H' : Hp}
theorem RE.mono (x : Ext φ φ' H H') : ∀ {ρ : Env} {σ : St}, RE K φ H ρ σ → RE K φ' H' ρ σ
  | [], _, h => h
  | p :: ρ, σ, h => by
    obtain ⟨v, r, e, q, s⟩ := h
    exact ⟨v, r, e, fun y z => by
      obtain ⟨w, e1, e2⟩ := q y z
      exact ⟨w, e1, e2.mono x⟩, RE.mono x s⟩
theorem RE.get : ∀ {ρ : Env} {σ : St} {i : Nat} {p : PV}, RE K φ H ρ σ → ρ[i]? = some (some p) → ∃ v, σ[i]? = some (some v) ∧ RV K φ H p v
  | [], _, _, _, _, e => by simp at e
  | q :: ρ, σ, 0, p, h, e => by
    obtain ⟨v, r, e1, k, s⟩ := h
    simp at e
    obtain ⟨w, e2, e3⟩ := k p e
    exact ⟨w, by rw [e1, e2]; rfl, e3⟩
  | q :: ρ, σ, i + 1, p, h, e => by
    obtain ⟨v, r, e1, k, s⟩ := h
    obtain ⟨w, e2, e3⟩ := RE.get (i := i) s (by simpa using e)
    exact ⟨w, by rw [e1]; simpa using e2, e3⟩
theorem RE.set : ∀ {ρ : Env} {σ : St} {p : PV} {v : V} (i : Nat), RV K φ H p v → RE K φ H ρ σ → RE K φ H (ρ.set i (some p)) (σ.set i (some v))
  | [], σ, _, _, _, _, h => by
    rw [show σ = [] from h]
    exact rfl
  | q :: ρ, σ, p, v, 0, hp, h => by
    obtain ⟨w, r, e1, k, s⟩ := h
    rw [e1]
    exact ⟨some v, r, rfl, fun x e => ⟨v, rfl, by cases e; exact hp⟩, s⟩
  | q :: ρ, σ, p, v, i + 1, hp, h => by
    obtain ⟨w, r, e1, k, s⟩ := h
    rw [e1]
    exact ⟨w, r.set i (some v), rfl, k, RE.set i hp s⟩
theorem RE.unset : ∀ {ρ : Env} {σ : St} (i : Nat), RE K φ H ρ σ → RE K φ H (ρ.set i none) (σ.set i none)
  | [], σ, _, h => by
    rw [show σ = [] from h]
    exact rfl
  | q :: ρ, σ, 0, h => by
    obtain ⟨w, r, e1, k, s⟩ := h
    rw [e1]
    exact ⟨none, r, rfl, fun x e => (by cases e), s⟩
  | q :: ρ, σ, i + 1, h => by
    obtain ⟨w, r, e1, k, s⟩ := h
    rw [e1]
    exact ⟨w, r.set i none, rfl, k, RE.unset i s⟩
theorem RE.unsetA {v : Option V} : ∀ {ρ : Env} {σ : St} (i : Nat), RE K φ H ρ σ → RE K φ H (ρ.set i none) (σ.set i v)
  | [], σ, _, h => by
    rw [show σ = [] from h]
    exact rfl
  | q :: ρ, σ, 0, h => by
    obtain ⟨w, r, e1, k, s⟩ := h
    rw [e1]
    exact ⟨v, r, rfl, fun x e => (by cases e), s⟩
  | q :: ρ, σ, i + 1, h => by
    obtain ⟨w, r, e1, k, s⟩ := h
    rw [e1]
    exact ⟨w, r.set i v, rfl, k, RE.unsetA i s⟩
theorem RE.wipe {ρ : Env} {σ : St} (h : RE K φ H ρ σ) : ∀ is : List Nat, RE K φ H (wipeP ρ is) (L2.wipe σ is)
  | [] => h
  | i :: is => (RE.wipe h is).unset i
end
end Sb
namespace Sb
open PySem PySem.Spec PyProof.Rows L2
theorem tuple_mul1 (l : Addr) (items : Array Value) (n : Nat) (dd : Option Addr) (sl : Array (Option Value)) (u : Tok) :
    Meets (Builtin.«tuple.__mul__» ⟨[.ref l, .int 1 u], []⟩) (fun _ R s => s.heap.get? l = some { cls := .type "tuple", dict := dd, data := .seq items n, slots := sl } ∧ R (.ok (.ret (Value.ref l))) s) :=
  .of_wp fun prog w A R s h => by
    obtain ⟨hp, g, d, tk, os⟩ := s
    obtain ⟨hl, h⟩ := h
    have f1 := AutoSeq1.idx_int
    have c0 : (decide ((1 : Int) < -(2 ^ 63)) || decide ((1 : Int) ≥ 2 ^ 63)) = false := by decide
    have c1 : (items.isEmpty || (1 : Int) == 1) = true := by simp
    wp_walk using wpAny_loadPart' hl
    repeat (first
      | (refine wpAny_ite_false (decide_eq_false (by rw [c0]; exact Bool.false_ne_true)) ?_; wp_walk using wpAny_loadPart' hl)
      | (refine wpAny_ite_true (decide_eq_true c1) ?_; wp_walk using wpAny_loadPart' hl))
    exact ⟨_, rfl, h⟩
theorem tuple_mul0 (l : Addr) (items : Array Value) (n : Nat) (dd : Option Addr) (sl : Array (Option Value)) (u : Tok) (hi : items.isEmpty = false) :
    Meets (Builtin.«tuple.__mul__» ⟨[.ref l, .int 0 u], []⟩) (fun _ R s => s.heap.get? l = some { cls := .type "tuple", dict := dd, data := .seq items n, slots := sl } ∧
      R (.ok (.ret (Value.ref s.heap.objs.size))) { s with heap := s.heap.push { cls := Value.type "tuple", data := Data.seq #[] }, toks := s.toks }) :=
  .of_wp fun prog w A R s h => by
    obtain ⟨hp, g, d, tk, os⟩ := s
    obtain ⟨hl, h⟩ := h
    have f1 := AutoSeq1.idx_int
    have c0 : (decide ((0 : Int) < -(2 ^ 63)) || decide ((0 : Int) ≥ 2 ^ 63)) = false := by decide
    have c1 : (items.isEmpty || (0 : Int) == 1) = false := by rw [hi]; rfl
    have c2 : (decide ((0 : Int) ≤ 0) || items.isEmpty) = true := by simp
    wp_walk using wpAny_loadPart' hl
    repeat (first
      | (refine wpAny_ite_false (decide_eq_false (by rw [c0]; exact Bool.false_ne_true)) ?_; wp_walk using wpAny_loadPart' hl)
      | (refine wpAny_ite_false (decide_eq_false (by rw [c1]; exact Bool.false_ne_true)) ?_; wp_walk using wpAny_loadPart' hl)
      | (refine wpAny_ite_true (decide_eq_true c2) ?_; wp_walk using wpAny_loadPart' hl))
    exact ⟨_, rfl, h⟩
def rRep01 (K : PySem.W.Frag) : R2 := fun x y H Q => ∃ l xs, x = .ref l ∧ SqT K H l xs ∧ xs ≠ [] ∧ ((y = .int 1 ∧ Q (.ref l) H) ∨ (y = .int 0 ∧ ∀ p, H p = none → Q (.ref p) (upd H p (.tup []))))
theorem op_rep01 {X : Cx} : OpR X (binaryOp .Mult) (rRep01 X.K) := by
  intro pins s σ H x y v u Q I rx ry h
  obtain ⟨l, xs, rfl, hT, hne, q⟩ := h
  cases rx
  obtain ⟨its, r, ⟨⟨cls, dd, data, sl⟩, ho, hc, n, hd⟩, hs⟩ := I.tuple hT
  simp only at hc hd
  subst hc hd
  have hi : its.toArray.isEmpty = false := by
    cases its with
    | nil =>
      have := r.length
      exact absurd (List.eq_nil_of_length_eq_zero this) hne
    | cons a b => rfl
  rcases q with ⟨rfl, q⟩ | ⟨rfl, q⟩
  · obtain ⟨t, rfl⟩ := ry
    exact wpAny_binaryOp_repeat_ref (T := "tuple") (U := "int") (by decide) ⟨_, ho, rfl⟩ (fun s' => typeIs_int s' 1 t) noFill_tuple_mul F.fills_int_mul F.slot_int_rmul repeat_tuple F.slot_int_index.lookup
      (call_meets F.slot_int_rmul (typeIs_int s 1 t) F.entry_int_rmul (F.args_int_rmul_2 _ _) (int_rmul_tuple 1 t l its.toArray n dd sl)
        ⟨ho, rfl, ⟨_, ho, rfl⟩, call_meets F.slot_tuple_mul ⟨_, ho, rfl⟩ F.entry_tuple_mul (F.args_tuple_mul_2 _ _) (tuple_mul1 l its.toArray n dd sl t) ⟨ho, ⟨.ref l, H, I, rfl, q⟩⟩⟩)
  · obtain ⟨t, rfl⟩ := ry
    refine wpAny_binaryOp_repeat_ref (T := "tuple") (U := "int") (by decide) ⟨_, ho, rfl⟩ (fun s' => typeIs_int s' 0 t) noFill_tuple_mul F.fills_int_mul F.slot_int_rmul repeat_tuple F.slot_int_index.lookup
      (call_meets F.slot_int_rmul (typeIs_int s 0 t) F.entry_int_rmul (F.args_int_rmul_2 _ _) (int_rmul_tuple 0 t l its.toArray n dd sl)
        ⟨ho, rfl, ⟨_, ho, rfl⟩, call_meets F.slot_tuple_mul ⟨_, ho, rfl⟩ F.entry_tuple_mul (F.args_tuple_mul_2 _ _) (tuple_mul0 l its.toArray n dd sl t hi) ⟨ho, ?_⟩⟩)
    refine ⟨.ref s.heap.objs.size, _, I.laid (t' := s.toks) (o := .tup []) (fun b ob q => Heap.get?_push_of_some _ q) (Nat.le_refl _) ?_, rfl, q _ (I.hok.fresh (Nat.le_refl _))⟩
    exact ⟨Nat.zero_le _, [], .nil, IsTup.new _ _⟩
/-- a text times 0 or 1 -/
theorem op_mulS {X : Cx} : OpR X (binaryOp .Mult) (fun x y H Q => ∃ z : Str, x = .str z ∧ ((y = .int 1 ∧ Q (.str z) H) ∨ (y = .int 0 ∧ Q (.str Str.empty) H))) := by
  intro pins s σ H x y v u Q I rx ry h
  obtain ⟨z, rfl, q⟩ := h
  obtain ⟨t, rfl⟩ := rx
  rcases q with ⟨rfl, q⟩ | ⟨rfl, q⟩
  · obtain ⟨t', rfl⟩ := ry
    refine PySem.P.mul_str (by decide) (fun _ h => absurd h (by simp)) (fun _ h => absurd h (by simp)) ?_
    rw [if_neg (by decide), if_pos (by simp)]
    exact ⟨.str z, H, I, ⟨t, rfl⟩, q⟩
  · obtain ⟨t', rfl⟩ := ry
    exact PySem.P.mul_str_none (by decide) (by decide) ⟨.str Str.empty, H, I.tok _, ⟨_, rfl⟩, q⟩
end Sb
namespace Sb
open PySem PySem.Spec PyProof.Rows L2
/-- how an exception lies: its class, its own dict -/
def RX (K : ZZ) (mg : Str → Option Value) (φ : List Addr) (H : Hp) (x : Exn) (cls : Value) (d : Option Addr) : Prop :=
  cls = .ref (He.ga K.K x.cls) ∧ ∃ fs : List (Str × V), ((d = none ∧ fs = []) ∨ ∃ da, d = some da ∧ H da = some (.xd fs) ∧ da ∉ φ) ∧ fs.map (·.1) = x.ns ∧ RVs K φ H x.vs (fs.map (·.2))
/-- rel: how a plain answer lies; W: what is wanted of an exception; Q: what is wanted of the answer -/
def Out (K : ZZ) (mg : Str → Option Value) {α β : Type} (rel : List Addr → Hp → α → β → Prop) (φ : List Addr) (H : Hp) (W : XK) (Q : β → Hp → Prop) : R α → Prop
  | .ok a h => ∀ φ' H' b, Ext φ φ' H H' → Sim K φ' h H' → rel φ' H' a b → Q b H'
  | .ex x h => ∀ φ' H' cls d, Ext φ φ' H H' → Sim K φ' h H' → RX K mg φ' H' x cls d → W cls d H'
  | .no => False
section
variable {K : ZZ} {mg : Str → Option Value} {α β γ δ : Type} {rel : List Addr → Hp → α → β → Prop} {rel2 : List Addr → Hp → γ → δ → Prop} {φ φ' : List Addr} {H H' : Hp} {W : XK} {Q Q' : β → Hp → Prop}
theorem Out.mono (x : Ext φ φ' H H') : ∀ {m : R α}, Out K mg rel φ H W Q m → Out K mg rel φ' H' W Q m
  | .ok _ _, h => fun φ2 H2 b y s r => h φ2 H2 b (x.trans y) s r
  | .ex _ _, h => fun φ2 H2 c d y s r => h φ2 H2 c d (x.trans y) s r
  | .no, h => h
theorem Out.imp (f : ∀ b H', Q b H' → Q' b H') : ∀ {m : R α}, Out K mg rel φ H W Q m → Out K mg rel φ H W Q' m
  | .ok _ _, h => fun φ2 H2 b y s r => f _ _ (h φ2 H2 b y s r)
  | .ex _ _, h => h
  | .no, h => h
/-- one thing after another -/
theorem Out.bind {m : R γ} {f : γ → PH → R α} (h : Out K mg rel φ H W Q (m.bind f)) :
    Out K mg rel2 φ H W (fun b H' => ∃ φ' a h1, Ext φ φ' H H' ∧ Sim K φ' h1 H' ∧ rel2 φ' H' a b ∧ Out K mg rel φ' H' W Q (f a h1)) m := by
  cases m with
  | ok a h1 => exact fun φ' H' b x s r => ⟨φ', a, h1, x, s, r, h.mono x⟩
  | ex x h1 => exact h
  | no => exact h
/-- the answer is there -/
theorem Out.at {a : α} {h : PH} {b : β} (o : Out K mg rel φ H W Q (.ok a h)) (s : Sim K φ h H) (r : rel φ H a b) : Q b H := o φ H b (Ext.refl _ _) s r
theorem Out.some {o : Option α} {h : PH} (q : Out K mg rel φ H W Q (ofO o h)) : ∃ a, o = .some a ∧ Out K mg rel φ H W Q (.ok a h) := by
  cases o with
  | none => exact q.elim
  | some a => exact ⟨a, rfl, q⟩
end
/-- an answer that is the thing itself -/
def RI {α : Type} (_ : List Addr) (_ : Hp) (a b : α) : Prop := a = b
theorem line_ok {n : Nat} (h : zaq n = true) : n ≤ sizeLine := by
  have e : n ≤ 1000000 := of_decide_eq_true h
  have := sizeLine_eq
  omega
theorem line_lt {n : Nat} (h : zaq (n + 1) = true) : n < sizeLine := by
  have e : n + 1 ≤ 1000000 := of_decide_eq_true h
  have := sizeLine_eq
  omega
def rOp (K : ZZ) (mg : Str → Option Value) (W : XK) (f : PV → PV → PH → R PV) : R2 := fun x y H Q => ∃ φ h a b, Sim K φ h H ∧ RV K φ H a x ∧ RV K φ H b y ∧ Out K mg (RV K) φ H W Q (f a b h)
/-- a new list -/
theorem Out.alloc {K : ZZ} {mg : Str → Option Value} {φ : List Addr} {H : Hp} {W : XK} {Q : VK} {h : PH} {l : List PV} {vs : List V} (s : Sim K φ h H) (r : RVs K φ H l vs) (o : Out K mg (RV K) φ H W Q (.ok (.ref h.length) (h ++ [.lst l]))) :
    ∀ p, H p = none → Q (.ref p) (upd H p (.lst vs)) := fun p n => o (φ ++ [p]) _ (.ref p) (Ext.push n) (s.push n r) ⟨p, rfl, by
  rw [← s.len, List.getElem?_append_right (Nat.le_refl _), Nat.sub_self]
  rfl⟩
/-- a new tuple -/
theorem Out.tupn {K : ZZ} {mg : Str → Option Value} {φ : List Addr} {H : Hp} {W : XK} {Q : VK} {h : PH} {l : List PV} {vs : List V} (s : Sim K φ h H) (r : RVs K φ H l vs) (o : Out K mg (RV K) φ H W Q (.ok (.tup l) h)) :
    ∀ p, H p = none → Q (.ref p) (upd H p (.tup vs)) := fun p n => o φ _ (.ref p) (Ext.new n) (s.new n) ⟨p, vs, rfl, .inl ⟨.inl upd_same, s.out n⟩, r.mono (Ext.new n)⟩
section
variable {X : Cx} {W : XK}
theorem op_fdivNW : OpR X (binaryOp .FloorDiv) (rI (fun _ j => j ≠ 0 ∧ j.natAbs.log2 < 9000) fun i j => .int (i.fdiv j)) := opI fun _ _ _ _ _ _ _ hc q => floordiv_int hc.1 q (.inl (PyProof.noPylong_of_log2 hc.2))
theorem rep_rel {K : ZZ} {φ : List Addr} {H : Hp} {l : List PV} {vs : List V} (r : RVs K φ H l vs) : ∀ n : Nat, RVs K φ H (List.replicate n l).flatten (List.replicate n vs).flatten
  | 0 => rfl
  | n + 1 => by
    rw [List.replicate_succ, List.replicate_succ, List.flatten_cons, List.flatten_cons]
    exact r.append (rep_rel r n)
theorem bin_ok (op : Operator) : OpR X (binaryOp op) (rOp (zOf X) X.mg W (binop op)) := by
  intro pins s σ H x y v u Q I rx ry hh
  obtain ⟨φ, h, a, b, sm, ra, rb, o⟩ := hh
  unfold binop at o
  split at o
  · exact op_add pins s σ H x y v u Q I rx ry ⟨_, _, ra, rb, o.at sm rfl⟩
  · exact op_sub pins s σ H x y v u Q I rx ry ⟨_, _, ra, rb, o.at sm rfl⟩
  · split at o
    · rename_i hm
      have hm' := of_decide_eq_true hm
      exact op_mulW pins s σ H x y v u Q I rx ry ⟨_, _, ra, rb, hm', o.at sm rfl⟩
    · exact o.elim
  · split at o
    · rename_i hm
      obtain ⟨h1, h2⟩ := Bool.and_eq_true_iff.mp hm
      exact op_fdivNW pins s σ H x y v u Q I rx ry ⟨_, _, ra, rb, ⟨of_decide_eq_true h1, of_decide_eq_true h2⟩, o.at sm rfl⟩
    · exact o.elim
  · split at o
    · exact o.elim
    · rename_i hm
      exact op_modN pins s σ H x y v u Q I rx ry ⟨_, _, ra, rb, hm, o.at sm rfl⟩
  · split at o
    · rename_i hm
      obtain ⟨h12, h3⟩ := Bool.and_eq_true_iff.mp hm
      obtain ⟨h1, h2⟩ := Bool.and_eq_true_iff.mp h12
      exact op_pow pins s σ H x y v u Q I rx ry ⟨_, _, ra, rb, ⟨of_decide_eq_true h1, of_decide_eq_true h2, of_decide_eq_true h3⟩, o.at sm rfl⟩
    · exact o.elim
  · split at o
    · rename_i hm
      exact op_add_str pins s σ H x y v u Q I rx ry ⟨_, _, ra, rb, line_ok hm, o.at sm rfl⟩
    · exact o.elim
  · rename_i m n
    split at o
    · rename_i l k e1 e2
      split at o
      · rename_i hm
        obtain ⟨a1, vs1, f1, g1, r1⟩ := sm.lst e1
        obtain ⟨a2, vs2, f2, g2, r2⟩ := sm.lst e2
        obtain ⟨b1, hx, q1⟩ := ra
        obtain ⟨b2, hy, q2⟩ := rb
        rw [f1] at q1
        rw [f2] at q2
        cases q1
        cases q2
        have hz : zaq ((l ++ k).length) = true := by rw [List.length_append]; exact hm
        unfold Sb.alloc at o
        rw [if_pos hz] at o
        exact op_cat pins s σ H x y v u Q I rx ry ⟨a1, a2, vs1, vs2, hx, hy, g1, g2, by rw [← r1.length, ← r2.length]; exact line_ok hm, o.alloc sm (r1.append r2)⟩
      · exact o.elim
    · exact o.elim
  · rename_i m k
    split at o
    · rename_i l e1
      split at o
      · rename_i hm
        obtain ⟨a1, vs1, f1, g1, r1⟩ := sm.lst e1
        obtain ⟨b1, hx, q1⟩ := ra
        rw [f1] at q1
        cases q1
        have hl : vs1.length * k.toNat ≤ 1000 * 1000 := Nat.mul_le_mul (by rw [← r1.length]; exact hm.2.2) (by omega)
        have hs := sizeLine_eq
        exact op_rep pins s σ H x y v u Q I rx ry ⟨a1, k, vs1, hx, rb, g1, by omega, by omega, by omega, o.alloc sm (rep_rel r1 _)⟩
      · exact o.elim
    · exact o.elim
  · rename_i l k
    split at o
    · rename_i hm
      obtain ⟨a1, vs1, hx, h1, r1⟩ := ra
      obtain ⟨a2, vs2, hy, h2, r2⟩ := rb
      refine op_catA pins s σ H x y v u Q I rx ry ⟨a1, a2, vs1, vs2, hx, hy, h1.sq, h2.sq, by rw [← r1.length, ← r2.length]; exact line_ok hm, fun e => ?_, fun _ e => ?_, fun _ _ => o.tupn sm (r1.append r2)⟩
      · subst e
        have : l = [] := List.length_eq_zero_iff.mp r1.length
        subst this
        exact o.at sm ⟨a2, vs2, rfl, h2, r2⟩
      · subst e
        have : k = [] := List.length_eq_zero_iff.mp r2.length
        subst this
        rw [List.append_nil] at o
        exact o.at sm ⟨a1, vs1, rfl, h1, r1⟩
    · exact o.elim
  · split at o
    · rename_i hm
      subst hm
      exact op_mulS pins s σ H x y v u Q I rx ry ⟨_, ra, .inl ⟨rb, o.at sm rfl⟩⟩
    · split at o
      · rename_i hm
        subst hm
        exact op_mulS pins s σ H x y v u Q I rx ry ⟨_, ra, .inr ⟨rb, o.at sm rfl⟩⟩
      · exact o.elim
  · rename_i l k
    split at o
    · rename_i hm
      obtain ⟨hm, rfl⟩ := hm
      obtain ⟨a1, vs1, hx, h1, r1⟩ := ra
      exact op_rep01 pins s σ H x y v u Q I rx ry ⟨a1, vs1, hx, h1.sq, fun e => hm (by subst e; exact List.length_eq_zero_iff.mp r1.length), .inl ⟨rb, o.at sm ⟨a1, vs1, rfl, h1, r1⟩⟩⟩
    · split at o
      · rename_i hm
        obtain ⟨hm, rfl⟩ := hm
        obtain ⟨a1, vs1, hx, h1, r1⟩ := ra
        exact op_rep01 pins s σ H x y v u Q I rx ry ⟨a1, vs1, hx, h1.sq, fun e => hm (by subst e; exact List.length_eq_zero_iff.mp r1.length), .inr ⟨rb, o.tupn sm (l := []) (vs := []) rfl⟩⟩
      · exact o.elim
  · exact o.elim
mutual
theorem dp_of {K : ZZ} {φ : List Addr} {h : PH} {H : Hp} (s : Sim K φ h H) : ∀ (n : Nat) (p : PV) (v : V) (d : PyData), RV K φ H p v → pd h n p = some d → Dp K.K H v d
  | n, .non, v, d, r, e => by
    have : v = .non := r
    subst this
    cases n <;> (cases e; exact .non)
  | n, .bl b, v, d, r, e => by
    have : v = .bl b := r
    subst this
    cases n <;> (cases e; exact .bl b)
  | n, .int i, v, d, r, e => by
    have : v = .int i := r
    subst this
    cases n <;> (cases e; exact .int i)
  | n, .str z, v, d, r, e => by
    have : v = .str z := r
    subst this
    have e' : d = .str z := by
      cases n <;> (
        unfold pd at e
        split at e
        · exact (Option.some.inj e).symm
        · cases e)
    subst e'
    exact .str z
  | 0, .tup l, v, d, r, e => by cases e
  | n + 1, .tup l, v, d, r, e => by
    obtain ⟨a, vs, e1, q, r'⟩ := r
    subst e1
    obtain ⟨ds, e2, e3⟩ := Option.map_eq_some_iff.mp (show (mapO (pd h n) l).map .tuple = some d from e)
    subst e3
    exact .tup q.sq (dps_of s n l vs ds r' e2)
  | 0, .cl l, v, d, r, e => by cases e
  | n + 1, .cl l, v, d, r, e => by
    obtain ⟨a, vs, e1, q, r'⟩ := r
    subst e1
    obtain ⟨ds, e2, e3⟩ := Option.map_eq_some_iff.mp (show (mapO (pd h n) l).map .list = some d from e)
    subst e3
    exact .lst q.sq (dps_of s n l vs ds r' e2)
  | 0, .ref m, v, d, r, e => by cases e
  | n + 1, .ref m, v, d, r, e => by
    obtain ⟨a, e1, q⟩ := r
    subst e1
    unfold pd at e
    cases z : h[m]? with
    | none => simp only [z] at e; cases e
    | some o =>
      cases o with
      | lst l =>
        simp only [z] at e
        obtain ⟨a', vs, e4, e5, r'⟩ := s.lst z
        rw [q] at e4
        cases e4
        obtain ⟨ds, e2, e3⟩ := Option.map_eq_some_iff.mp e
        subst e3
        exact .lst (SqL.of e5) (dps_of s n l vs ds r' e2)
      | dct l => simp only [z] at e; cases e
      | obj c l => simp only [z] at e; cases e
      | dtp l => simp only [z] at e; cases e
  | n, .ty t, v, d, r, e => by cases n <;> cases e
  | n, .cls t, v, d, r, e => by cases n <;> cases e
  | n, .xc x ns vs, v, d, r, e => by cases n <;> cases e
  | n, .ste l, v, d, r, e => by cases n <;> cases e
  | n, .exv _ _ _, v, d, r, e => by cases n <;> cases e
theorem dps_of {K : ZZ} {φ : List Addr} {h : PH} {H : Hp} (s : Sim K φ h H) : ∀ (n : Nat) (l : List PV) (vs : List V) (ds : List PyData), RVs K φ H l vs → mapO (pd h n) l = some ds → DpAll K.K H vs ds
  | n, [], vs, ds, r, e => by
    have : vs = [] := r
    subst this
    cases e
    exact .nil
  | n, p :: l, vs, ds, r, e => by
    obtain ⟨v, t, e1, q, r'⟩ := r
    subst e1
    unfold mapO at e
    cases z1 : pd h n p with
    | none => simp only [z1] at e; cases e
    | some d1 =>
      cases z2 : mapO (pd h n) l with
      | none => simp only [z1, z2] at e; cases e
      | some d2 =>
        simp only [z1, z2] at e
        cases e
        exact .cons (dp_of s n p v d1 q z1) (dps_of s n l t d2 r' z2)
end
mutual
theorem pd_shape {h : PH} : ∀ (n : Nat) (p : PV) (d : PyData), pd h n p = some d → d.canLay0 = true ∧ d.depth ≤ n
  | n, .non, d, e => by cases n <;> (cases e; exact ⟨rfl, Nat.zero_le _⟩)
  | n, .bl b, d, e => by cases n <;> (cases e; exact ⟨rfl, Nat.zero_le _⟩)
  | n, .int i, d, e => by cases n <;> (cases e; exact ⟨rfl, Nat.zero_le _⟩)
  | n, .str z, d, e => by
    have e' : strOkP z = true ∧ d = .str z := by
      cases n <;> (
        unfold pd at e
        split at e
        · exact ⟨by assumption, (Option.some.inj e).symm⟩
        · cases e)
    obtain ⟨e1, e2⟩ := e'
    subst e2
    exact ⟨e1, Nat.zero_le _⟩
  | 0, .tup l, d, e => by cases e
  | n + 1, .tup l, d, e => by
    obtain ⟨ds, e2, e3⟩ := Option.map_eq_some_iff.mp (show (mapO (pd h n) l).map .tuple = some d from e)
    subst e3
    obtain ⟨h1, h2⟩ := pds_shape n l ds e2
    exact ⟨h1, by unfold PyData.depth; omega⟩
  | 0, .cl l, d, e => by cases e
  | n + 1, .cl l, d, e => by
    obtain ⟨ds, e2, e3⟩ := Option.map_eq_some_iff.mp (show (mapO (pd h n) l).map .list = some d from e)
    subst e3
    obtain ⟨h1, h2⟩ := pds_shape n l ds e2
    exact ⟨h1, by unfold PyData.depth; omega⟩
  | 0, .ref m, d, e => by cases e
  | n + 1, .ref m, d, e => by
    unfold pd at e
    cases z : h[m]? with
    | none => simp only [z] at e; cases e
    | some o =>
      cases o with
      | lst l =>
        simp only [z] at e
        obtain ⟨ds, e2, e3⟩ := Option.map_eq_some_iff.mp e
        subst e3
        obtain ⟨h1, h2⟩ := pds_shape n l ds e2
        exact ⟨h1, by unfold PyData.depth; omega⟩
      | dct l => simp only [z] at e; cases e
      | obj c l => simp only [z] at e; cases e
      | dtp l => simp only [z] at e; cases e
  | n, .ty t, d, e => by cases n <;> cases e
  | n, .cls t, d, e => by cases n <;> cases e
  | n, .xc x ns vs, d, e => by cases n <;> cases e
  | n, .ste l, d, e => by cases n <;> cases e
  | n, .exv _ _ _, d, e => by cases n <;> cases e
theorem pds_shape {h : PH} : ∀ (n : Nat) (l : List PV) (ds : List PyData), mapO (pd h n) l = some ds → PyData.canLayAll0 ds = true ∧ PyData.depthAll ds ≤ n
  | n, [], ds, e => by
    cases e
    exact ⟨rfl, Nat.zero_le _⟩
  | n, p :: l, ds, e => by
    unfold mapO at e
    cases z1 : pd h n p with
    | none => simp only [z1] at e; cases e
    | some d1 =>
      cases z2 : mapO (pd h n) l with
      | none => simp only [z1, z2] at e; cases e
      | some d2 =>
        simp only [z1, z2] at e
        cases e
        obtain ⟨a1, a2⟩ := pd_shape n p d1 z1
        obtain ⟨b1, b2⟩ := pds_shape n l d2 z2
        refine ⟨?_, ?_⟩
        · show (d1.canLay0 && PyData.canLayAll0 d2) = true
          rw [a1, b1]
          rfl
        · unfold PyData.depthAll
          omega
end
theorem shaped_of {h : PH} {n : Nat} {p : PV} {d : PyData} (e : pd h n p = some d) (hn : n ≤ 64) : SeqAt.shaped d = true := by
  obtain ⟨h1, h2⟩ := pd_shape n p d e
  unfold SeqAt.shaped
  rw [h1, decide_eq_true (show d.depth ≤ 64 by omega)]
  rfl
theorem eqP_ok {K : ZZ} {φ : List Addr} {h : PH} {H : Hp} (s : Sim K φ h H) {a b : PV} {x y : V} {r : Bool} (ra : RV K φ H a x) (rb : RV K φ H b y) (e : eqP h a b = some r) :
    (∃ d e, Dp K.K H x d ∧ Dp K.K H y e ∧ SeqAt.shaped d = true ∧ SeqAt.shaped e = true ∧ PyData.eqv d e = r) ∨ dEqP h a b = some r := by
  unfold eqP at e
  cases z1 : pd h 8 a with
  | none => simp only [z1] at e; exact .inr e
  | some d1 =>
    cases z2 : pd h 8 b with
    | none => simp only [z1, z2] at e; exact .inr e
    | some d2 =>
      simp only [z1, z2] at e
      exact .inl ⟨d1, d2, dp_of s 8 a x d1 ra z1, dp_of s 8 b y d2 rb z2, shaped_of z1 (by decide), shaped_of z2 (by decide), Option.some.inj e⟩
section
variable {X : Cx} {pins : List (Addr × Obj)} {s : Shared} {σ : L2.St} {φ : List Addr} {h : PH} {H : Hp}
theorem dEq_hits (hu : X.A.units + 66 < cLine) (I : Inv X pins σ H s) (sm : Sim (zOf X) φ h H) {k : List (Key × PV)} {ls : List (Key × V)} {vb : List (Key × Value)} (rk : RD (zOf X) φ H k ls) (rb : KV ls vb) (hk : ∀ kv ∈ k, (pd h 8 kv.2).isSome = true) :
    ∀ {l : List (Key × PV)} {ks : List (Key × V)} {va : List (Key × Value)}, RD (zOf X) φ H l ks → KV ks va → (∀ kv ∈ l, (pd h 8 kv.2).isSome = true) → PySem.W.KeqHits X.A.in1 s vb va (l.all (dHit h k))
  | [], ks, va, rl, ra, _ => by
    have := rl.empty
    subst this
    unfold KV at ra
    cases ra
    exact .nil
  | (key, p) :: l, ks, va, rl, ra, hl => by
    obtain ⟨v, t, rfl, rv, rt⟩ := rl.inv
    unfold KV at ra
    cases ra with
    | @cons _ q _ qs hq tq =>
      obtain ⟨q1, q2⟩ := q
      obtain ⟨e1, e2⟩ := hq
      have e1 : key = q1 := e1
      subst e1
      have e2 : RelV v q2 := e2
      have ih := dEq_hits hu I sm rk rb hk rt tq fun kv hm => hl kv (List.mem_cons_of_mem _ hm)
      have rr := rb.val key
      rw [List.all_cons]
      rcases rk.val key with ⟨n1, n2⟩ | ⟨p', v', n1, n2, n3⟩
      · rw [n2] at rr
        rw [show dHit h k (key, p) = false from by unfold dHit; rw [n1], Bool.false_and]
        refine .miss ?_
        cases hv : valueAt vb key with
        | none => rfl
        | some w => rw [hv] at rr; exact rr.elim
      · rw [n2] at rr
        obtain ⟨y, hy, ry⟩ := rr.some_of
        rw [show dHit h k (key, p) = eqvP h p p' from by unfold dHit; rw [n1]]
        obtain ⟨d1, z1⟩ := Option.isSome_iff_exists.mp (hl (key, p) (by simp))
        have z1 : pd h 8 p = some d1 := z1
        have hm : (key, p') ∈ k := by
          unfold valP at n1
          obtain ⟨kv, f1, f2⟩ := Option.map_eq_some_iff.mp n1
          have := List.mem_of_find?_eq_some f1
          have k1 : kv.1 = key := by simpa using List.find?_some f1
          rw [← k1, ← f2]
          exact this
        obtain ⟨d2, z2⟩ := Option.isSome_iff_exists.mp (hk _ hm)
        have z2 : pd h 8 p' = some d2 := z2
        have ev : eqvP h p p' = PyData.eqv d1 d2 := by unfold eqvP; rw [z1, z2]
        obtain ⟨as, r1⟩ := Dp.reads I d1 v q2 (dp_of sm 8 p v d1 rv z1) e2
        obtain ⟨bs, r2⟩ := Dp.reads I d2 v' y (dp_of sm 8 p' v' d2 n3 z2) ry
        rw [ev]
        exact .hit hy (PySem.W.keq_at r1 r2 (shaped_of z1 (by decide)) (shaped_of z2 (by decide)) (by show X.A.units + 1 + 64 < cLine; omega)) ih
theorem dEq_ok (hu : X.A.units + 66 < cLine) {a b : PV} {x y : V} {v u : Value} {r : Bool} {Q : VK} (I : Inv X pins σ H s) (rx : RelV x v) (ry : RelV y u) (sm : Sim (zOf X) φ h H) (ra : RV (zOf X) φ H a x) (rb : RV (zOf X) φ H b y) (e : dEqP h a b = some r) :
    (Q (.bl r) H → wpAny (model X.prog X.w) X.A (compareOp .Eq v u) (EP X pins σ Q) X.xe s) ∧ (Q (.bl (!r)) H → wpAny (model X.prog X.w) X.A (compareOp .NotEq v u) (EP X pins σ Q) X.xe s) := by
  unfold dEqP at e
  split at e
  · rename_i m n
    split at e
    · rename_i l k e1 e2
      unfold dEq at e
      split at e
      · rename_i hall
        obtain ⟨h1, h2⟩ := Bool.and_eq_true_iff.mp hall
        have h1 := List.all_eq_true.mp h1
        have h2 := List.all_eq_true.mp h2
        obtain ⟨a1, hx, f1⟩ := ra
        obtain ⟨b1, hy, f2⟩ := rb
        obtain ⟨a', ks, g1, g2, g3⟩ := sm.dctR e1
        obtain ⟨b', ls, k1, k2, k3⟩ := sm.dctR e2
        rw [f1] at g1
        cases g1
        rw [f2] at k1
        cases k1
        subst hx hy
        cases (show v = Value.ref a1 from rx)
        cases (show u = Value.ref b1 from ry)
        obtain ⟨_, ya, va, rva, da⟩ := (show ObjOk X.prog X.w H s.heap a1 (.dK ks) from I.hok a1 _ g2)
        obtain ⟨_, yb, vb, rvb, db⟩ := (show ObjOk X.prog X.w H s.heap b1 (.dK ls) from I.hok b1 _ k2)
        have hits := dEq_hits hu I sm k3 rvb h2 g3 rva h1
        have el : (va.length == vb.length) = (l.length == k.length) := by rw [← rva.length, ← rvb.length, ← g3.length, ← k3.length]
        have er := Option.some.inj e
        rw [← el] at er
        exact ⟨fun q => PySem.W.keq_eq (knd := mixKind X.prog X.w) ya yb da db (by omega) (fun _ => hits) ⟨.bl _, H, I, rfl, by rw [er]; exact q⟩, fun q => PySem.W.keq_ne (knd := mixKind X.prog X.w) ya yb da db (by omega) (fun _ => hits) ⟨.bl _, H, I, rfl, by rw [er]; exact q⟩⟩
      · cases e
    · cases e
  · cases e
end
section
variable {X : Cx} {W : XK}
theorem RV.isNon {K : ZZ} {φ : List Addr} {H : Hp} {a : PV} {x : V} (r : RV K φ H a x) : decide (x = .non) = isNonP a := by
  cases a with
  | non => rw [show x = .non from r]; rfl
  | bl b => rw [show x = .bl b from r]; rfl
  | int b => rw [show x = .int b from r]; rfl
  | str b => rw [show x = .str b from r]; rfl
  | ty b => rw [show x = .ty b.nm from r]; rfl
  | ref n => obtain ⟨a, e, _⟩ := r; rw [e]; rfl
  | tup n => obtain ⟨a, _, e, _⟩ := r; rw [e]; rfl
  | cl n => obtain ⟨a, _, e, _⟩ := r; rw [e]; rfl
  | cls n =>
    have r' : x = if n = "ValueError" then V.ty "ValueError" else .ref (He.ga K.K n) := r
    rw [r']
    split <;> rfl
  | xc n m l => obtain ⟨a, _, e, _⟩ := r; rw [e]; rfl
  | ste n => obtain ⟨a, e, _⟩ := r; rw [e]; rfl
  | exv n m l => obtain ⟨a, _, e, _⟩ := r; rw [e]; rfl
theorem _root_.L2.Room.u66 {k : Nat} {A : Around} (r : Room k A) : A.units + 66 < cLine := by have := r.un; omega
/-- x in a list, a tuple, by data -/
theorem inSeq_ok {K : ZZ} {φ : List Addr} {h : PH} {H : Hp} (s : Sim K φ h H) {a : PV} {x : V} {l : List PV} {vs : List V} {r : Bool} (ra : RV K φ H a x) (rl : RVs K φ H l vs) (e : inSeqP h a l = some r) :
    ∃ d ds, Dp K.K H x d ∧ DpAll K.K H vs ds ∧ SeqAt.shaped d = true ∧ SeqAt.shaped (.list ds) = true ∧ (ds.any fun z => PyData.eqv z d) = r := by
  unfold inSeqP at e
  cases z1 : pd h 8 a with
  | none => simp only [z1] at e; cases e
  | some d1 =>
    cases z2 : mapO (pd h 8) l with
    | none => simp only [z1, z2] at e; cases e
    | some d2 =>
      simp only [z1, z2] at e
      obtain ⟨h1, h2⟩ := pds_shape 8 l d2 z2
      refine ⟨d1, d2, dp_of s 8 a x d1 ra z1, dps_of s 8 l vs d2 rl z2, shaped_of z1 (by decide), ?_, Option.some.inj e⟩
      unfold SeqAt.shaped
      have e1 : (PyData.list d2).canLay0 = true := h1
      have e2 : (PyData.list d2).depth ≤ 64 := by unfold PyData.depth; omega
      rw [e1, decide_eq_true e2]
      rfl
theorem in_tupD (hu : X.A.units + 66 < cLine) : OpR X (compareOp .In) (fun x y H Q => ∃ d ds, Dp X.K H x d ∧ Dp X.K H y (.tuple ds) ∧ SeqAt.shaped d = true ∧ SeqAt.shaped (.list ds) = true ∧ Q (.bl (ds.any fun z => PyData.eqv z d)) H) := by
  intro pins s σ H x y v u Q I rx ry h
  obtain ⟨d, ds, hd, he, sd, se, q⟩ := h
  obtain ⟨as, r1⟩ := Dp.reads I d x v hd rx
  obtain ⟨bs, r2⟩ := Dp.reads I (.tuple ds) y u he ry
  exact SeqAt.in_tuple_reads r2 r1 (SeqAt.canLay_of_shaped se) (SeqAt.canLay_of_shaped sd) (room_in_shaped sd (by omega)) ⟨.bl _, H, I, rfl, q⟩
theorem notIn_tupD (hu : X.A.units + 66 < cLine) : OpR X (compareOp .NotIn) (fun x y H Q => ∃ d ds, Dp X.K H x d ∧ Dp X.K H y (.tuple ds) ∧ SeqAt.shaped d = true ∧ SeqAt.shaped (.list ds) = true ∧ Q (.bl (!ds.any fun z => PyData.eqv z d)) H) := by
  intro pins s σ H x y v u Q I rx ry h
  obtain ⟨d, ds, hd, he, sd, se, q⟩ := h
  obtain ⟨as, r1⟩ := Dp.reads I d x v hd rx
  obtain ⟨bs, r2⟩ := Dp.reads I (.tuple ds) y u he ry
  exact SeqAt.notIn_tuple_reads r2 r1 (SeqAt.canLay_of_shaped se) (SeqAt.canLay_of_shaped sd) (room_in_shaped sd (by omega)) ⟨.bl _, H, I, rfl, q⟩
theorem in_ok (hu : X.A.units + 66 < cLine) {pins : List (Addr × Obj)} {s : Shared} {σ : L2.St} {φ : List Addr} {h : PH} {H : Hp} {a b : PV} {x y : V} {v u : Value} {r : Bool} {Q : VK} (I : Inv X pins σ H s) (rx : RelV x v) (ry : RelV y u) (sm : Sim (zOf X) φ h H) (ra : RV (zOf X) φ H a x) (rb : RV (zOf X) φ H b y) (e : inP h a b = some r) :
    (Q (.bl r) H → wpAny (model X.prog X.w) X.A (compareOp .In v u) (EP X pins σ Q) X.xe s) ∧ (Q (.bl (!r)) H → wpAny (model X.prog X.w) X.A (compareOp .NotIn v u) (EP X pins σ Q) X.xe s) := by
  have lst : ∀ {l : List PV}, inSeqP h a l = some r → (∃ ad vs, y = .ref ad ∧ SqL X.K H ad vs ∧ RVs (zOf X) φ H l vs) → (Q (.bl r) H → wpAny (model X.prog X.w) X.A (compareOp .In v u) (EP X pins σ Q) X.xe s) ∧ (Q (.bl (!r)) H → wpAny (model X.prog X.w) X.A (compareOp .NotIn v u) (EP X pins σ Q) X.xe s) := by
    rintro l e1 ⟨ad, vs, hy, hq, rl⟩
    obtain ⟨d, ds, h1, h2, h3, h4, h5⟩ := inSeq_ok sm ra rl e1
    subst hy h5
    exact ⟨fun q => op_inD (by omega) pins s σ H x _ v u Q I rx ry ⟨d, ds, h1, .lst hq h2, h3, h4, q⟩, fun q => op_notInD (by omega) pins s σ H x _ v u Q I rx ry ⟨d, ds, h1, .lst hq h2, h3, h4, q⟩⟩
  cases b with
  | tup l =>
    obtain ⟨ad, vs, hy, hq, rl⟩ := rb
    obtain ⟨d, ds, h1, h2, h3, h4, h5⟩ := inSeq_ok sm ra rl e
    subst hy h5
    exact ⟨fun q => in_tupD hu pins s σ H x _ v u Q I rx ry ⟨d, ds, h1, .tup hq.sq h2, h3, h4, q⟩, fun q => notIn_tupD hu pins s σ H x _ v u Q I rx ry ⟨d, ds, h1, .tup hq.sq h2, h3, h4, q⟩⟩
  | cl l =>
    obtain ⟨ad, vs, hy, hq, rl⟩ := rb
    exact lst e ⟨ad, vs, hy, hq.sq, rl⟩
  | ref n =>
    unfold inP at e
    cases z : h[n]? with
    | none => simp only [z] at e; cases e
    | some o =>
      cases o with
      | lst l =>
        simp only [z] at e
        obtain ⟨ad, hy, q⟩ := rb
        obtain ⟨a', vs, e4, e5, r'⟩ := sm.lst z
        rw [q] at e4
        cases e4
        exact lst e ⟨ad, vs, hy, SqL.of e5, r'⟩
      | dct l =>
        simp only [z] at e
        obtain ⟨k, ek, er⟩ := Option.map_eq_some_iff.mp e
        obtain ⟨ad, hy, q⟩ := rb
        obtain ⟨a', kvs, e4, e5, r'⟩ := sm.dctR z
        rw [q] at e4
        cases e4
        subst hy er
        have hx := key_rel ra ek
        subst hx
        obtain rfl : u = Value.ref ad := ry
        have ev : (valV kvs k).isSome = (valP l k).isSome := by
          rcases r'.val k with ⟨h1, h2⟩ | ⟨_, _, h1, h2, _⟩ <;> rw [h1, h2] <;> rfl
        exact ⟨fun q => d_in (by omega) I (DGet.k e5) rx fun s3 I3 => ⟨.bl _, H, I3, by rw [ev]; rfl, q⟩, fun q => d_notIn (by omega) I (DGet.k e5) rx fun s3 I3 => ⟨.bl _, H, I3, by rw [ev]; rfl, q⟩⟩
      | obj c l => simp only [z] at e; cases e
      | dtp l => simp only [z] at e; cases e
  | str z =>
    cases a with
    | str x' =>
      change signIn x' z = some r at e
      unfold signIn at e
      split at e
      · rename_i c hc
        cases e
        have ex : x' = ⟨#[c]⟩ := by
          have : x'.cps = #[c] := by
            apply Array.toList_inj.mp
            rw [hc]
          cases x'
          simp only at this
          rw [this]
        subst ex
        have h1 : x = .str ⟨#[c]⟩ := ra
        have h2 : y = .str z := rb
        exact ⟨fun q => L2.op_in_sign pins s σ H x y v u Q I rx ry ⟨c, z, h1, h2, q⟩, fun q => L2.op_notIn_sign pins s σ H x y v u Q I rx ry ⟨c, z, h1, h2, q⟩⟩
      · cases e
    | _ => cases e
  | ste l =>
    obtain ⟨k, ek, er⟩ := Option.map_eq_some_iff.mp (show ((keyOf a).map fun k => l.any fun j => decide (j = k)) = some r from e)
    obtain ⟨ad, hy, q, _, _⟩ := rb
    subst hy er
    have hx := key_rel ra ek
    subst hx
    exact ⟨fun z => or_sinK pins s σ H _ _ v u Q I rx ry ⟨k, ad, _, _, rfl, rfl, q, z⟩, fun z => or_snotinK pins s σ H _ _ v u Q I rx ry ⟨k, ad, _, _, rfl, rfl, q, z⟩⟩
  | _ => cases e
theorem cmp_ok (hu : X.A.units + 66 < cLine) (op : CmpOp) : OpR X (compareOp op) (rOp (zOf X) X.mg W (cmpop op)) := by
  intro pins s σ H x y v u Q I rx ry hh
  obtain ⟨φ, h, a, b, sm, ra, rb, o⟩ := hh
  unfold cmpop at o
  split at o
  · exact op_lt pins s σ H x y v u Q I rx ry ⟨_, _, ra, rb, o.at sm rfl⟩
  · exact op_le pins s σ H x y v u Q I rx ry ⟨_, _, ra, rb, o.at sm rfl⟩
  · exact op_gt pins s σ H x y v u Q I rx ry ⟨_, _, ra, rb, o.at sm rfl⟩
  · exact op_ge pins s σ H x y v u Q I rx ry ⟨_, _, ra, rb, o.at sm rfl⟩
  · exact op_lt_str pins s σ H x y v u Q I rx ry ⟨_, _, ra, rb, o.at sm rfl⟩
  · have q := ra.isNon
    refine op_isN pins s σ H x y v u Q I rx ry ⟨rb, ?_⟩
    rw [q]
    exact o.at sm rfl
  · have q := ra.isNon
    refine op_notN pins s σ H x y v u Q I rx ry ⟨rb, ?_⟩
    rw [q]
    exact o.at sm rfl
  · exact op_isBl pins s σ H x y v u Q I rx ry ⟨_, _, ra, rb, o.at sm rfl⟩
  · exact op_notBl pins s σ H x y v u Q I rx ry ⟨_, _, ra, rb, o.at sm rfl⟩
  · rename_i x1 y1
    have hx : x = .str x1 := ra
    have hy : y = .str y1 := rb
    subst hx hy
    refine op_eq pins s σ H _ _ v u Q I rx ry ⟨rfl, ?_⟩
    rw [dec_str]
    have := o.at sm (b := V.bl (decide (x1 = y1))) rfl
    rwa [show (x1 == y1) = decide (x1 = y1) from by rw [Bool.eq_iff_iff]; simp]
  · rename_i x1 y1
    have hx : x = .str x1 := ra
    have hy : y = .str y1 := rb
    subst hx hy
    refine op_ne pins s σ H _ _ v u Q I rx ry ⟨rfl, ?_⟩
    rw [dec_str]
    have := o.at sm (b := V.bl (!decide (x1 = y1))) rfl
    rwa [show (x1 == y1) = decide (x1 = y1) from by rw [Bool.eq_iff_iff]; simp]
  · obtain ⟨z, e, q⟩ := o.some
    obtain ⟨r, e1, e2⟩ := Option.map_eq_some_iff.mp e
    subst e2
    rcases eqP_ok sm ra rb e1 with ⟨d, e', h1, h2, h3, h4, h5⟩ | e2
    · refine op_eqD (by omega) pins s σ H x y v u Q I rx ry ⟨d, e', h1, h2, h3, h4, ?_⟩
      rw [h5]
      exact q.at sm rfl
    · exact (dEq_ok hu I rx ry sm ra rb e2).1 (q.at sm rfl)
  · obtain ⟨z, e, q⟩ := o.some
    obtain ⟨r, e1, e2⟩ := Option.map_eq_some_iff.mp e
    subst e2
    rcases eqP_ok sm ra rb e1 with ⟨d, e', h1, h2, h3, h4, h5⟩ | e2
    · refine op_neD (by omega) pins s σ H x y v u Q I rx ry ⟨d, e', h1, h2, h3, h4, ?_⟩
      rw [h5]
      exact q.at sm rfl
    · exact (dEq_ok hu I rx ry sm ra rb e2).2 (q.at sm rfl)
  · obtain ⟨z, e, q⟩ := o.some
    obtain ⟨r, e1, e2⟩ := Option.map_eq_some_iff.mp e
    subst e2
    exact (in_ok hu I rx ry sm ra rb e1).1 (q.at sm rfl)
  · obtain ⟨z, e, q⟩ := o.some
    obtain ⟨r, e1, e2⟩ := Option.map_eq_some_iff.mp e
    subst e2
    exact (in_ok hu I rx ry sm ra rb e1).2 (q.at sm rfl)
  · exact op_gt_str pins s σ H x y v u Q I rx ry ⟨_, _, ra, rb, o.at sm rfl⟩
  · exact o.elim
theorem atI_rel {K : ZZ} {φ : List Addr} {H : Hp} {l : List PV} {vs : List V} {i : Int} {p : PV} (r : RVs K φ H l vs) (e : atI l i = some p) : ∃ v, atI vs i = some v ∧ RV K φ H p v := by
  unfold atI at e ⊢
  rw [← r.length]
  cases q : ixN l.length i with
  | none => rw [q] at e; cases e
  | some j =>
    rw [q] at e
    exact r.get e
theorem ix_ok (hu : X.A.units + 1 < cLine) : IxR X (rOp (zOf X) X.mg W idxop) := by
  intro value slice pins s σ H x y v u Q I rx ry hh hs
  obtain ⟨φ, h, a, b, sm, ra, rb, o⟩ := hh
  unfold idxop at o
  split at o
  · split at o
    · rename_i hm
      split at o
      · rename_i c e
        exact ix_str value slice pins s σ H x y v u Q I rx ry ⟨_, _, c, ra, rb, line_ok hm, e, o.at sm rfl⟩ hs
      · exact o.elim
    · exact o.elim
  · rename_i n i _
    split at o
    · rename_i l e
      split at o
      · obtain ⟨p, e1, q⟩ := o.some
        obtain ⟨ad, vs, hx, hq, r⟩ := sm.listV (l := l) ra (by simp only [listOf, e])
        obtain ⟨w, e2, rw'⟩ := atI_rel r e1
        exact ix_list value slice pins s σ H x y v u Q I rx ry ⟨ad, vs, _, w, hx, rb, hq, e2, q.at sm rw'⟩ hs
      · exact o.elim
    · rename_i l e
      split at o
      · rename_i k ek
        obtain ⟨p, e1, q⟩ := o.some
        obtain ⟨ad, hx, qq⟩ := ra
        obtain ⟨a', kvs, e4, e5, r'⟩ := sm.dctR e
        rw [qq] at e4
        cases e4
        have hy := key_rel rb ek
        subst hx hy
        obtain rfl : v = Value.ref ad := rx
        rcases r'.val k with ⟨h1, h2⟩ | ⟨p', v', h1, h2, h3⟩
        · rw [h1] at e1
          cases e1
        · rw [h1] at e1
          cases e1
          have g : DGet H ad (kV k) (some v') := by
            rw [← h2]
            exact DGet.k e5
          exact tail_any (dict_typeIs I g) PySem.F.slot_dict_getitem.lookup (d_getItem hu I g ry fun w' s3 I3 rw' => ⟨v', H, I3, rw', q.at sm h3⟩) hs
      · exact o.elim
    · exact o.elim
  · obtain ⟨p, e1, q⟩ := o.some
    obtain ⟨ad, vs, hx, hq, r⟩ := ra
    obtain ⟨w, e2, rw'⟩ := atI_rel r e1
    exact ix_tup value slice pins s σ H x y v u Q I rx ry ⟨ad, vs, _, w, hx, rb, hq.sq, e2, q.at sm rw'⟩ hs
  · obtain ⟨p, e1, q⟩ := o.some
    obtain ⟨ad, vs, hx, hq, r⟩ := ra
    obtain ⟨w, e2, rw'⟩ := atI_rel r e1
    exact ix_list value slice pins s σ H x y v u Q I rx ry ⟨ad, vs, _, w, hx, rb, hq.sq, e2, q.at sm rw'⟩ hs
  · exact o.elim
def rSetP (K : ZZ) (mg : Str → Option Value) : TSet := fun o i v H Q => ∃ φ h a b c h', Sim K φ h H ∧ RV K φ H a o ∧ RV K φ H b i ∧ RV K φ H c v ∧ zbo a b c h = some h' ∧ ∀ H', Ext φ φ H H' → Sim K φ h' H' → Q H'
theorem set_ok (hu : X.A.units + 1 < cLine) : PSet X (rSetP (zOf X) X.mg) := by
  intro pins s σ H o i v ov iv u Q I ro ri rv hh
  obtain ⟨φ, h, a, b, c, h', sm, ra, rb, rc, e, q⟩ := hh
  unfold zbo at e
  split at e
  · rename_i n
    split at e
    · rename_i l e1
      split at e
      · rename_i k
        split at e
        · rename_i j e2
          cases e
          obtain ⟨ad, vs, f1, g1, r1⟩ := sm.lst e1
          obtain ⟨b1, hx, q1⟩ := ra
          rw [f1] at q1
          cases q1
          refine set_list pins s σ H o i v ov iv u Q I ro ri rv ⟨ad, vs, k, j, hx, rb, g1, by rw [← r1.length]; exact e2, ?_⟩
          exact q _ (Ext.write sm (List.mem_of_getElem? f1)) (sm.write f1 (r1.set j rc))
        · cases e
      · cases e
    · rename_i l e1
      split at e
      · rename_i k ek
        split at e
        · rename_i hm
          cases e
          obtain ⟨ad, kvs, f1, g1, r1⟩ := sm.dctR e1
          obtain ⟨b1, hx, q1⟩ := ra
          rw [f1] at q1
          cases q1
          have hi := key_rel rb ek
          subst hx hi
          obtain rfl : ov = Value.ref ad := ro
          exact d_setItem hu I (DPut.k g1 (by rw [← r1.length]; exact line_lt hm)) ri rv fun s4 I4 => ⟨_, I4, q _ (Ext.write sm (List.mem_of_getElem? f1)) (sm.writeD f1 (r1.put k rc))⟩
        · cases e
      · cases e
    · cases e
  · cases e
theorem tru_of {K : ZZ} {φ : List Addr} {h : PH} {H : Hp} {a : PV} {x : V} {b : Bool} (sm : Sim K φ h H) (r : RV K φ H a x) (e : truthy h a = some b) : TruV K.K x H b := by
  cases a with
  | non => rw [show x = .non from r]; cases e; rfl
  | bl c => rw [show x = .bl c from r]; cases e; rfl
  | int i => rw [show x = .int i from r]; cases e; rfl
  | str z =>
    rw [show x = .str z from r]
    simp only [truthy] at e
    split at e
    · rename_i hm
      cases e
      refine ⟨line_ok hm, ?_⟩
      by_cases q : 0 < z.length
      · rw [decide_eq_true q]
        exact (by simp; omega)
      · rw [decide_eq_false q]
        have : z.length = 0 := by omega
        rw [this]
        rfl
    · cases e
  | ty t => cases e
  | cls t => cases e
  | xc t ns vs => cases e
  | ste l => cases e
  | exv t ns vs => cases e
  | tup l =>
    obtain ⟨ad, vs, e1, q, r'⟩ := r
    cases e
    subst e1
    refine .inr (.inl ⟨vs, q.sq, ?_⟩)
    cases l with
    | nil => rw [show vs = [] from r']; rfl
    | cons p l => obtain ⟨v, t, e2, _⟩ := r'; rw [e2]; rfl
  | cl l =>
    obtain ⟨ad, vs, e1, q, r'⟩ := r
    cases e
    subst e1
    refine .inl ⟨vs, q.sq, ?_⟩
    cases l with
    | nil => rw [show vs = [] from r']; rfl
    | cons p l => obtain ⟨v, t, e2, _⟩ := r'; rw [e2]; rfl
  | ref n =>
    obtain ⟨ad, e1, q⟩ := r
    subst e1
    unfold truthy at e
    cases z : h[n]? with
    | none => simp only [z] at e; cases e
    | some o =>
      cases o with
      | lst l =>
        simp only [z] at e
        cases e
        obtain ⟨a', vs, e4, e5, r'⟩ := sm.lst z
        rw [q] at e4
        cases e4
        refine .inl ⟨vs, SqL.of e5, ?_⟩
        cases l with
        | nil => rw [show vs = [] from r']; rfl
        | cons p l => obtain ⟨v, t, e2, _⟩ := r'; rw [e2]; rfl
      | dct l =>
        simp only [z] at e
        cases e
        obtain ⟨a', kvs, e4, e5, ek, r'⟩ := sm.dct z
        rw [q] at e4
        cases e4
        refine .inr (.inr ⟨kvs, e5, ?_⟩)
        cases l with
        | nil => rw [show kvs = [] from List.map_eq_nil_iff.mp ek]; rfl
        | cons p l =>
          cases kvs with
          | nil => cases ek
          | cons x y => rfl
      | obj c l => simp only [z] at e; cases e
      | dtp l => simp only [z] at e; cases e
end
end
end Sb
namespace Sb
open PySem PySem.Spec PyProof.Rows L2
def rCa (K : ZZ) (mg : Str → Option Value) (W : XK) (f : List PV → PH → R PV) : List V → Hp → VK → Prop := fun vs H Q => ∃ φ h ps, Sim K φ h H ∧ RVs K φ H ps vs ∧ Out K mg (RV K) φ H W Q (f ps h)
theorem RVs.one {K : ZZ} {φ : List Addr} {H : Hp} {p : PV} {vs : List V} (r : RVs K φ H [p] vs) : ∃ v, vs = [v] ∧ RV K φ H p v := by
  obtain ⟨v, t, e, q, s⟩ := r
  have : t = [] := s
  subst this
  exact ⟨v, e, q⟩
theorem RVs.two {K : ZZ} {φ : List Addr} {H : Hp} {p q : PV} {vs : List V} (r : RVs K φ H [p, q] vs) : ∃ v w, vs = [v, w] ∧ RV K φ H p v ∧ RV K φ H q w := by
  obtain ⟨v, t, e, q, s⟩ := r
  obtain ⟨w, e2, q2⟩ := RVs.one s
  subst e2
  exact ⟨v, w, e, q, q2⟩
theorem kit_all (s t : Ty) : kitB s.nm t.nm = some (isTy s t) := by
  cases s <;> cases t <;> decide +kernel
theorem tyx_of {K : ZZ} {φ : List Addr} {h : PH} {H : Hp} {a : PV} {x : V} {t : Ty} (sm : Sim K φ h H) (r : RV K φ H a x) (e : tyOf h a = some t) : TyX K.K H x (.type t.nm) := by
  cases a with
  | non => rw [show x = .non from r]; cases e; exact .base .non
  | bl c => rw [show x = .bl c from r]; cases e; exact .base (.bl c)
  | int i => rw [show x = .int i from r]; cases e; exact .base (.int i)
  | str z => rw [show x = .str z from r]; cases e; exact .base (.str z)
  | ty t => cases e
  | cls t => cases e
  | xc t ns vs => cases e
  | ste l => cases e
  | exv t ns vs => cases e
  | tup l =>
    obtain ⟨ad, vs, e1, q, r'⟩ := r
    cases e
    subst e1
    rcases q with ⟨q | ⟨o, q⟩, _⟩ | ⟨o, its, n, q1, q2, _⟩
    · exact .base (.tup q)
    · exact .fTuple q
    · exact .kTuple q1 q2
  | cl l =>
    obtain ⟨ad, vs, e1, q, r'⟩ := r
    cases e
    subst e1
    rcases q with ⟨⟨o, q⟩, _⟩ | ⟨o, its, n, q1, q2, _⟩
    · exact .base (.frz q)
    · exact .kList q1 q2
  | ref n =>
    obtain ⟨ad, e1, q⟩ := r
    subst e1
    unfold tyOf at e
    cases z : h[n]? with
    | none => simp only [z] at e; cases e
    | some o =>
      cases o with
      | lst l =>
        simp only [z] at e
        cases e
        obtain ⟨a', vs, e4, e5, r'⟩ := sm.lst z
        rw [q] at e4
        cases e4
        exact .base (.lst e5)
      | dct l =>
        simp only [z] at e
        cases e
        obtain ⟨a', kvs, e4, e5, ek, r'⟩ := sm.dct z
        rw [q] at e4
        cases e4
        exact .base (.dK e5)
      | obj c l => simp only [z] at e; cases e
      | dtp l => simp only [z] at e; cases e
theorem bools_rel {K : ZZ} {φ : List Addr} {H : Hp} : ∀ {l : List PV} {vs : List V} {bs : List Bool}, RVs K φ H l vs → boolsOf l = some bs → vs = bs.map V.bl
  | [], vs, bs, r, e => by
    have : vs = [] := r
    subst this
    cases e
    rfl
  | p :: l, vs, bs, r, e => by
    obtain ⟨v, t, e1, q, s⟩ := r
    cases p with
    | bl b =>
      obtain ⟨bs', e2, e3⟩ := Option.map_eq_some_iff.mp (show (boolsOf l).map (b :: ·) = some bs from e)
      rw [← e3, e1, bools_rel s e2, show v = .bl b from q]
      rfl
    | _ => cases e
theorem tys_rel {K : ZZ} {φ : List Addr} {H : Hp} : ∀ {l : List PV} {vs : List V} {ts : List Ty}, RVs K φ H l vs → tysOf l = some ts → Paired ClsV vs (ts.map fun t => Value.type t.nm)
  | [], vs, bs, r, e => by
    have : vs = [] := r
    subst this
    cases e
    exact .nil
  | p :: l, vs, bs, r, e => by
    obtain ⟨v, t, e1, q, s⟩ := r
    cases p with
    | ty b =>
      obtain ⟨bs', e2, e3⟩ := Option.map_eq_some_iff.mp (show (tysOf l).map (b :: ·) = some bs from e)
      rw [← e3, e1, show v = .ty b.nm from q]
      exact .cons (.ty b.nm) (tys_rel s e2)
    | _ => cases e
theorem kit_any {K : PySem.W.Frag} (s : Ty) : ∀ ts : List Ty, PySem.W.kitAny K (.type s.nm) (ts.map fun t => Value.type t.nm) = some (ts.any (isTy s))
  | [] => kitAny_nil
  | t :: ts => by
    rw [List.map_cons, List.any_cons]
    refine kitAny_cons (b := isTy s t) (kit_ty (kit_all s t)) (fun e => ?_) fun e => ?_
    · rw [e, Bool.false_or]
      exact kit_any s ts
    · rw [e]
      rfl
section
variable {X : Cx} {W : XK}
theorem bi_abs : CallR X (.builtin "abs") (rCa (zOf X) X.mg W biAbs) := by
  intro pins s σ H vs us Q I rv hh
  obtain ⟨φ, h, ps, sm, r, o⟩ := hh
  unfold biAbs at o
  split at o
  · rename_i i
    obtain ⟨v, e, q⟩ := r.one
    subst e
    exact call_abs pins s σ H _ us Q I rv ⟨i, by rw [show v = .int i from q], o.at sm rfl⟩
  · exact o.elim
theorem bi_len : CallR X (.builtin "len") (rCa (zOf X) X.mg W biLen) := by
  intro pins s σ H vs us Q I rv hh
  obtain ⟨φ, h, ps, sm, r, o⟩ := hh
  unfold biLen at o
  split at o
  · rename_i z
    obtain ⟨v, e, q⟩ := r.one
    subst e
    split at o
    · rename_i hm
      exact call_len pins s σ H _ us Q I rv ⟨v, z.length, rfl, by rw [show v = .str z from q]; exact ⟨line_ok hm, rfl⟩, o.at sm rfl⟩
    · exact o.elim
  · rename_i n
    obtain ⟨v, e, q⟩ := r.one
    subst e
    split at o
    · rename_i l e1
      obtain ⟨ad, vs, hx, hq, r'⟩ := sm.listV (l := l) q (by simp only [listOf, e1])
      refine call_len_seq pins s σ H _ us Q I rv ⟨ad, vs, by rw [hx], .inl hq, ?_⟩
      rw [← r'.length]
      exact o.at sm rfl
    · rename_i l e1
      obtain ⟨ad, hx, qq⟩ := q
      obtain ⟨a', kvs, e4, e5, r'⟩ := sm.dctR e1
      rw [qq] at e4
      cases e4
      refine call_lenD pins s σ H _ us Q I rv ⟨ad, kvs, by rw [hx], e5, ?_⟩
      rw [← r'.length]
      exact o.at sm rfl
    · exact o.elim
  · rename_i l
    obtain ⟨v, e, q⟩ := r.one
    subst e
    obtain ⟨ad, vs, hx, hq, r'⟩ := q
    refine call_len_seq pins s σ H _ us Q I rv ⟨ad, vs, by rw [hx], .inr hq.sq, ?_⟩
    rw [← r'.length]
    exact o.at sm rfl
  · rename_i l
    obtain ⟨v, e, q⟩ := r.one
    subst e
    obtain ⟨ad, vs, hx, hq, r'⟩ := q
    refine call_len_seq pins s σ H _ us Q I rv ⟨ad, vs, by rw [hx], .inl hq.sq, ?_⟩
    rw [← r'.length]
    exact o.at sm rfl
  · exact o.elim
theorem bi_all (hc : X.calm = true) : CallR X (.builtin "all") (rCa (zOf X) X.mg W biAll) := by
  intro pins s σ H vs us Q I rv hh
  obtain ⟨φ, h, ps, sm, r, o⟩ := hh
  unfold biAll at o
  split at o
  · obtain ⟨v, e, q⟩ := r.one
    subst e
    split at o
    · rename_i bs e1
      obtain ⟨l, e2, e3⟩ := Option.bind_eq_some_iff.mp e1
      obtain ⟨ad, vs, hx, hq, r'⟩ := sm.listV q e2
      rw [bools_rel r' e3] at hq
      exact cr_all hc pins s σ H _ us Q I rv ⟨ad, bs, by rw [hx], hq, o.at sm rfl⟩
    · exact o.elim
  · exact o.elim
theorem zbj : CallR X (.builtin "isinstance") (rCa (zOf X) X.mg W zbr) := by
  intro pins s σ H vs us Q I rv hh
  obtain ⟨φ, h, ps, sm, r, o⟩ := hh
  unfold zbr at o
  split at o
  · rename_i a t
    obtain ⟨v, w, e, q, q2⟩ := r.two
    subst e
    split at o
    · rename_i ts e1
      exact call_isi pins s σ H _ us Q I rv ⟨v, .ty t.nm, _, _, _, by rw [show w = .ty t.nm from q2], .ty t.nm, tyx_of sm q e1, kit_ty (kit_all ts t), o.at sm rfl⟩
    · exact o.elim
  · rename_i a l
    obtain ⟨v, w, e, q, q2⟩ := r.two
    subst e
    split at o
    · rename_i ts tl e1 e2
      obtain ⟨ad, vs, hx, hq, r'⟩ := q2
      subst hx
      rcases hq with ⟨hq | ⟨ob, hq⟩, _⟩ | hq
      · exact call_isiT pins s σ H _ us Q I rv ⟨v, ad, vs, _, _, _, rfl, hq, tys_rel r' e2, tyx_of sm q e1, kit_any ts tl, o.at sm rfl⟩
      · exact isiF pins s σ H _ us Q I rv ⟨v, ad, ob, vs, _, _, _, rfl, hq, tys_rel r' e2, tyx_of sm q e1, kit_any ts tl, o.at sm rfl⟩
      · exact isiKT pins s σ H _ us Q I rv ⟨v, ad, vs, _, _, _, rfl, hq, tys_rel r' e2, tyx_of sm q e1, kit_any ts tl, o.at sm rfl⟩
    · exact o.elim
  · exact o.elim
where
  isiF : CallR X (.builtin "isinstance") (fun xs H Q => ∃ (x : V) (tp : Addr) (ob : Obj) (cs : List V) (t : Value) (us : List Value) (b : Bool), xs = [x, .ref tp] ∧ H tp = some (.frz ob (.tup cs)) ∧ Paired ClsV cs us ∧ TyX X.K H x t ∧ PySem.W.kitAny X.K t us = some b ∧ Q (.bl b) H) := by
    intro pins s σ H xs us Q I r h
    obtain ⟨x, tp, ob, cs, t, ws, b, rfl, hT, k, ty, e, q⟩ := h
    obtain ⟨u1, u2, rfl, r1, r2⟩ := vals2 r
    cases (show u2 = Value.ref tp from r2)
    obtain ⟨P, Z, p, hx⟩ := kit_of I r1 ty
    obtain ⟨_, _, its, rv, o, h1, h2, n, h3⟩ := (show ObjOk X.prog X.w H s.heap tp (.frz ob (.tup cs)) from I.hok tp _ hT)
    have e3 := ClsV.all k rv
    subst e3
    obtain ⟨oc, od, dt, sl⟩ := o
    simp only at h2 h3
    subst h2 h3
    exact PySem.W.kia_tup Z I.kIn p h1 e hx fun tk => ⟨.bl b, H, I.tok tk, rfl, q⟩
  isiKT : CallR X (.builtin "isinstance") (fun xs H Q => ∃ (x : V) (tp : Addr) (cs : List V) (t : Value) (us : List Value) (b : Bool), xs = [x, .ref tp] ∧ KT X.K tp cs ∧ Paired ClsV cs us ∧ TyX X.K H x t ∧ PySem.W.kitAny X.K t us = some b ∧ Q (.bl b) H) := by
    intro pins s σ H xs us Q I r h
    obtain ⟨x, tp, cs, t, ws, b, rfl, ⟨o, its, n, h1, h2, h3, hz, rv⟩, k, ty, e, q⟩ := h
    obtain ⟨u1, u2, rfl, r1, r2⟩ := vals2 r
    cases (show u2 = Value.ref tp from r2)
    obtain ⟨P, Z, p, hx⟩ := kit_of I r1 ty
    have e3 := ClsV.all k rv
    obtain ⟨oc, od, dt, sl⟩ := o
    simp only at h2 h3
    subst h2 h3
    have e4 : its = ws.toArray := by rw [← e3]
    subst e4
    exact PySem.W.kia_tup Z I.kIn p (I.kIn _ _ h1) e hx fun tk => ⟨.bl b, H, I.tok tk, rfl, q⟩
theorem bi_tuple : CallR X (.type "tuple") (rCa (zOf X) X.mg W biTuple) := by
  intro pins s σ H vs us Q I rv hh
  obtain ⟨φ, h, ps, sm, r, o⟩ := hh
  unfold biTuple at o
  split at o
  · rename_i l
    obtain ⟨v, e, q⟩ := r.one
    subst e
    obtain ⟨ad, vs, hx, hq, r'⟩ := id q
    exact call_tuple_of pins s σ H _ us Q I rv ⟨ad, vs, by rw [hx], .inr ⟨hq.sq, o.at sm ⟨ad, vs, rfl, hq, r'⟩⟩⟩
  · obtain ⟨v, e, q⟩ := r.one
    subst e
    split at o
    · rename_i l e1
      obtain ⟨ad, vs, hx, hq, r'⟩ := sm.listV q e1
      exact call_tuple_of pins s σ H _ us Q I rv ⟨ad, vs, by rw [hx], .inl ⟨hq, o.tupn sm r'⟩⟩
    · exact o.elim
  · exact o.elim
theorem bi_list (hc : X.calm = true) : CallR X (.type "list") (rCa (zOf X) X.mg W biList) := by
  intro pins s σ H vs us Q I rv hh
  obtain ⟨φ, h, ps, sm, r, o⟩ := hh
  unfold biList at o
  split at o
  · rename_i n
    obtain ⟨v, e, q⟩ := r.one
    subst e
    split at o
    · rename_i l e1
      obtain ⟨ad, vs, hx, hq, r'⟩ := sm.listV (l := l) q (by simp only [listOf, e1])
      exact call_list_of pins s σ H _ us Q I rv ⟨ad, vs, by rw [hx], .inl hq, o.alloc sm r'⟩
    · rename_i l e1
      obtain ⟨ad, hx, qq⟩ := q
      obtain ⟨a', kvs, e4, e5, r'⟩ := sm.dctR e1
      rw [qq] at e4
      cases e4
      refine call_listD hc pins s σ H _ us Q I rv ⟨ad, kvs, by rw [hx], .inl e5, ?_⟩
      have ek : (kvs.map fun kv => kV kv.1) = (l.map (·.1)).map kV := by
        rw [← r'.1, List.map_map]
        rfl
      have ep : (l.map fun kv => keyP kv.1) = (l.map (·.1)).map keyP := by
        rw [List.map_map]
        rfl
      rw [ek]
      rw [ep] at o
      exact o.alloc sm (keysP_rv _)
    · exact o.elim
  · rename_i l
    obtain ⟨v, e, q⟩ := r.one
    subst e
    obtain ⟨ad, vs, hx, hq, r'⟩ := q
    exact call_list_of pins s σ H _ us Q I rv ⟨ad, vs, by rw [hx], .inr hq.sq, o.alloc sm r'⟩
  · rename_i l
    obtain ⟨v, e, q⟩ := r.one
    subst e
    obtain ⟨ad, vs, hx, hq, r'⟩ := q
    exact call_list_of pins s σ H _ us Q I rv ⟨ad, vs, by rw [hx], .inl hq.sq, o.alloc sm r'⟩
  · exact o.elim
theorem strs_rel {K : ZZ} {φ : List Addr} {H : Hp} : ∀ {l : List PV} {vs : List V} {xs : List Str}, RVs K φ H l vs → strsOf l = some xs → vs = xs.map V.str
  | [], vs, bs, r, e => by
    have : vs = [] := r
    subst this
    cases e
    rfl
  | p :: l, vs, bs, r, e => by
    obtain ⟨v, t, e1, q, s⟩ := r
    cases p with
    | str b =>
      obtain ⟨bs', e2, e3⟩ := Option.map_eq_some_iff.mp (show (strsOf l).map (b :: ·) = some bs from e)
      rw [← e3, e1, strs_rel s e2, show v = .str b from q]
      rfl
    | _ => cases e
theorem ints_rel {K : ZZ} {φ : List Addr} {H : Hp} : ∀ {l : List PV} {vs : List V} {xs : List Int}, RVs K φ H l vs → intsOf l = some xs → vs = xs.map V.int
  | [], vs, bs, r, e => by
    have : vs = [] := r
    subst this
    cases e
    rfl
  | p :: l, vs, bs, r, e => by
    obtain ⟨v, t, e1, q, s⟩ := r
    cases p with
    | int b =>
      obtain ⟨bs', e2, e3⟩ := Option.map_eq_some_iff.mp (show (intsOf l).map (b :: ·) = some bs from e)
      rw [← e3, e1, ints_rel s e2, show v = .int b from q]
      rfl
    | _ => cases e
theorem ints_rv {K : ZZ} {φ : List Addr} {H : Hp} : ∀ xs : List Int, RVs K φ H (xs.map PV.int) (xs.map V.int)
  | [] => rfl
  | x :: xs => RVs.cons rfl (ints_rv xs)
theorem leStr_iff {x y : Str} : leStr x y = true ↔ ¬ y.cps.toList < x.cps.toList := by
  unfold leStr ltStr
  simp
theorem leStr_trans (a b c : Str) (h1 : leStr a b = true) (h2 : leStr b c = true) : leStr a c = true := by
  rw [leStr_iff] at h1 h2 ⊢
  rw [List.not_lt] at h1 h2 ⊢
  exact List.le_trans h1 h2
theorem leStr_total (a b : Str) : (leStr a b || leStr b a) = true := by
  rw [Bool.or_eq_true, leStr_iff, leStr_iff, List.not_lt, List.not_lt]
  exact List.le_total _ _
theorem leStr_anti {a b : Str} (h1 : leStr a b = true) (h2 : leStr b a = true) : a = b := by
  rw [leStr_iff, List.not_lt] at h1 h2
  have e : a.cps.toList = b.cps.toList := List.le_antisymm h1 h2
  cases a with
  | mk x =>
    cases b with
    | mk y => exact congrArg Str.mk (Array.toList_inj.mp e)
theorem bi_int : CallR X (.type "int") (rCa (zOf X) X.mg W biInt) := by
  intro pins s σ H vs us Q I rv hh
  obtain ⟨φ, h, ps, sm, r, o⟩ := hh
  unfold biInt at o
  split at o
  · rename_i i
    obtain ⟨v, e, q⟩ := r.one
    subst e
    exact call_int1 pins s σ H _ us Q I rv (.inl ⟨i, by rw [show v = .int i from q], o.at sm rfl⟩)
  · rename_i b
    obtain ⟨v, e, q⟩ := r.one
    subst e
    exact call_int1 pins s σ H _ us Q I rv (.inr ⟨b, by rw [show v = .bl b from q], o.at sm rfl⟩)
  · exact o.elim
def rMt (K : ZZ) (mg : Str → Option Value) (W : XK) (f : PV → List PV → PH → R PV) : V → List V → Hp → VK → Prop := fun x vs H Q => ∃ φ h p ps, Sim K φ h H ∧ RV K φ H p x ∧ RVs K φ H ps vs ∧ Out K mg (RV K) φ H W Q (f p ps h)
theorem mt_append_ok : MtR X "list.append" (rMt (zOf X) X.mg W mtAppend) := by
  intro pins s σ H x xs v us Q I rx rs hh
  obtain ⟨φ, h, p, ps, sm, r, r2, o⟩ := hh
  unfold mtAppend at o
  split at o
  · rename_i n a
    split at o
    · rename_i l e1
      split at o
      · rename_i hm
        obtain ⟨ad, vs, f1, g1, r1⟩ := sm.lst e1
        obtain ⟨b1, hx, q1⟩ := r
        rw [f1] at q1
        cases q1
        obtain ⟨w, e, q⟩ := r2.one
        subst e
        refine mt_append pins s σ H x _ v us Q I rx rs ⟨ad, vs, w, hx, rfl, g1, by rw [← r1.length]; exact line_lt hm, ?_⟩
        exact o φ _ _ (Ext.write sm (List.mem_of_getElem? f1)) (sm.write f1 (r1.append (RVs.cons q RVs.nil))) rfl
      · exact o.elim
    · exact o.elim
  · exact o.elim
theorem mt_popAt_ok : MtR X "list.pop" (rMt (zOf X) X.mg W mtPopAt) := by
  intro pins s σ H x xs v us Q I rx rs hh
  obtain ⟨φ, h, p, ps, sm, r, r2, o⟩ := hh
  unfold mtPopAt at o
  split at o
  · rename_i n i
    split at o
    · rename_i l e1
      split at o
      · rename_i hm
        split at o
        · rename_i w e2
          obtain ⟨ad, vs, f1, g1, r1⟩ := sm.lst e1
          obtain ⟨b1, hx, q1⟩ := r
          rw [f1] at q1
          cases q1
          obtain ⟨z, e, q⟩ := r2.one
          subst e
          obtain ⟨y, e3, ry⟩ := r1.get e2
          have hlt : i.toNat < vs.length := (List.getElem?_eq_some_iff.mp e3).1
          have hz : vs.length ≤ sizeLine := by
            obtain ⟨hz, _⟩ := (show ObjOk X.prog X.w H s.heap ad (.lst vs) from I.hok ad _ g1)
            exact hz
          have hs := sizeLine_eq
          refine mt_popAt pins s σ H x _ v us Q I rx rs ⟨ad, vs, i, i.toNat, y, hx, by rw [show z = .int i from q], g1, by omega, by omega, PySem.StrLaws.seqIndex_nonneg hm (by omega), e3, ?_⟩
          exact o φ _ _ (Ext.write sm (List.mem_of_getElem? f1)) (sm.write f1 (r1.erase i.toNat)) (ry.mono (Ext.write sm (List.mem_of_getElem? f1)))
        · exact o.elim
      · exact o.elim
    · exact o.elim
  · exact o.elim
theorem mt_join_ok : MtR X "str.join" (rMt (zOf X) X.mg W mtJoin) := by
  intro pins s σ H x xs v us Q I rx rs hh
  obtain ⟨φ, h, p, ps, sm, r, r2, o⟩ := hh
  unfold mtJoin at o
  split at o
  · rename_i sep a
    split at o
    · rename_i ys e1
      split at o
      · rename_i hm
        obtain ⟨l, e2, e3⟩ := Option.bind_eq_some_iff.mp e1
        obtain ⟨w, e, q⟩ := r2.one
        subst e
        obtain ⟨ad, vs, hx, hq, r'⟩ := sm.listV q e2
        rw [strs_rel r' e3] at hq
        exact mt_join pins s σ H x _ v us Q I rx rs ⟨sep, ad, ys, r, by rw [hx], .inl hq, by omega, o.at sm rfl⟩
      · exact o.elim
    · exact o.elim
  · exact o.elim
end
end Sb
namespace Sb
open PySem PySem.Spec L2
/-- nothing is let out -/
theorem takesN0 {X : Cx} : L2N.Takes X (fun _ _ _ _ => False) := fun _ _ x => by
  obtain ⟨_, _, _, _, _, _, _, _, _, _, _, _, _, _, _, _, z⟩ := x
  exact z.elim
/-- what is wanted of an exception at these slots -/
abbrev atS (W : WX) (σ : St) : XK := fun c d H => W c d σ H
def tE (K : ZZ) (mg : Str → Option Value) (W : WX) (C : Calls) (e : E) : TE := fun σ H Q => ∃ ρ φ h, Sim K φ h H ∧ RE K φ H ρ σ ∧ Out K mg (RV K) φ H (atS W σ) Q (evG C e false ρ h)
def tT (K : ZZ) (mg : Str → Option Value) (W : WX) (C : Calls) (e : E) : TT := fun σ H Q => ∃ ρ φ h, Sim K φ h H ∧ RE K φ H ρ σ ∧ Out K mg RI φ H (atS W σ) Q (evT C e ρ h)
def tAs (K : ZZ) (mg : Str → Option Value) (W : WX) (C : Calls) (es : List E) : TA := fun σ H Q => ∃ ρ φ h, Sim K φ h H ∧ RE K φ H ρ σ ∧ Out K mg (RVs K) φ H (atS W σ) Q (evGs C es ρ h)
/-- the program's expression a is the plain expression e -/
abbrev JE (X : Cx) (W : WX) (C : Calls) (a : Expr) (e : E) : Prop := PE X a (tE (zOf X) X.mg W C e)
abbrev JT (X : Cx) (W : WX) (C : Calls) (a : Expr) (e : E) : Prop := PT X a (tT (zOf X) X.mg W C e)
abbrev JA (X : Cx) (W : WX) (C : Calls) (as : List Expr) (es : List E) : Prop := PA X as (tAs (zOf X) X.mg W C es)
theorem za5 {X : Cx} {a : Expr} {t t' : TE} (p : PE X a t) (f : ∀ σ H Q, t' σ H Q → t σ H Q) : PE X a t' := ⟨fun pins s σ H Q I h => p.run pins s σ H Q I (f σ H Q h)⟩
theorem pt_imp {X : Cx} {a : Expr} {t t' : TT} (p : PT X a t) (f : ∀ σ H Q, t' σ H Q → t σ H Q) : PT X a t' := ⟨fun pins s σ H Q I h => p.run pins s σ H Q I (f σ H Q h)⟩
theorem pa_imp {X : Cx} {a : List Expr} {t t' : TA} (p : PA X a t) (f : ∀ σ H Q, t' σ H Q → t σ H Q) : PA X a t' := ⟨fun pos pins s σ H Q I h => p.run pos pins s σ H Q I (f σ H Q h)⟩
section
variable {X : Cx} {W : WX} {C : Calls} {a b c : Expr} {pos : Pos} {ea eb ec : E}
theorem zaa (i : Nat) {x : Str} (hN : X.N[i]? = some x := by rfl) (hv : Vis X.env.scope x := by first | exact Or.inl rfl | exact Or.inr (Or.inl rfl) | exact Or.inr (Or.inr rfl)) (hd : (x == ("__debug__" : Str)) = false := by decide)
    (hcd : (x == ("__classdict__" : Str)) = false := by decide) : JE X W C (.Name x pos) (.var i) := za5 (pe_var hN hv hd hcd) fun σ H Q ⟨ρ, φ, h, sm, re, o⟩ => by
  have o' : Out (zOf X) X.mg (RV (zOf X)) φ H (atS W σ) Q (ofO (ρ.get i) h) := o
  obtain ⟨p, e, q⟩ := o'.some
  have e' : ρ[i]? = some (some p) := by
    unfold Env.get at e
    split at e
    · rename_i v e2
      rw [e2, Option.some.inj e]
    · cases e
  obtain ⟨v, e3, r⟩ := re.get e'
  exact ⟨v, e3, q.at sm r⟩
theorem je_lit {a : Expr} {v : V} {p : PV} (hp : PE X a (tC v)) (r : ∀ φ H, RV (zOf X) φ H p v) : JE X W C a (.lit p) := za5 hp fun σ H Q ⟨ρ, φ, h, sm, re, o⟩ => by
  have o' : Out (zOf X) X.mg (RV (zOf X)) φ H (atS W σ) Q (.ok p h) := o
  exact o'.at sm (r φ H)
theorem zaf {i : Int} {j : Nat} : JE X W C (.Constant (.int i) j pos) (.lit (.int i)) := je_lit pe_int fun _ _ => rfl
theorem je_bl {i : Bool} {j : Nat} : JE X W C (.Constant (.bool i) j pos) (.lit (.bl i)) := je_lit pe_bl fun _ _ => rfl
theorem je_non {j : Nat} : JE X W C (.Constant .none j pos) (.lit .non) := je_lit pe_non fun _ _ => rfl
theorem zbe {i : Str} {j : Nat} : JE X W C (.Constant (.str i) j pos) (.lit (.str i)) := je_lit pe_str fun _ _ => rfl
/-- a built-in class by its name -/
theorem je_ty {x : Str} (t : Ty) (hm : X.mg x = none) (hv : bootBuiltins x = some (.type t.nm)) (hg : Gl X x := by rfl) (hn : x ≠ "__name__" := by decide) (hd : (x == ("__debug__" : Str)) = false := by decide) : JE X W C (.Name x pos) (.lit (.ty t)) :=
  je_lit (pe_bltn (v := .ty t.nm) hg hm hv rfl hn hd) fun _ _ => rfl
/-- two, one after another -/
theorem two_of {σ : St} {H : Hp} {Q : VK} {ρ : Env} {φ : List Addr} {h : PH} {f : PV → PV → PH → R PV} (sm : Sim (zOf X) φ h H) (re : RE (zOf X) φ H ρ σ) (o : Out (zOf X) X.mg (RV (zOf X)) φ H (atS W σ) Q ((evG C ea false ρ h).bind fun x h1 => (evG C eb false ρ h1).bind fun y h2 => f x y h2)) :
    tOp (fun x y H Q => ∃ W' : XK, rOp (zOf X) X.mg W' f x y H Q) (tE (zOf X) X.mg W C ea) (tE (zOf X) X.mg W C eb) σ H Q :=
  ⟨ρ, φ, h, sm, re, (Out.bind (rel2 := RV (zOf X)) o).imp fun x H1 ⟨φ1, va, h1, x1, s1, r1, o1⟩ => ⟨ρ, φ1, h1, s1, re.mono x1, (Out.bind (rel2 := RV (zOf X)) o1).imp fun y H2 ⟨φ2, vb, h2, x2, s2, r2, o2⟩ => ⟨_, φ2, h2, va, vb, s2, r1.mono x2, r2, o2⟩⟩⟩
theorem opr_any {f : Value → Value → Sem Value} {r : XK → R2} (h : ∀ W, OpR X f (r W)) : OpR X f (fun x y H Q => ∃ W, r W x y H Q) := fun pins s σ H x y v u Q I rx ry ⟨W, q⟩ => h W pins s σ H x y v u Q I rx ry q
theorem ixr_any {r : XK → R2} (h : ∀ W, IxR X (r W)) : IxR X (fun x y H Q => ∃ W, r W x y H Q) := fun value slice pins s σ H x y v u Q I rx ry ⟨W, q⟩ hs => h W value slice pins s σ H x y v u Q I rx ry q hs
theorem zak {op : Operator} (ha : JE X W C a ea) (hb : JE X W C b eb) : JE X W C (.BinOp a op b pos) (.bin op ea eb) :=
  za5 (pe_op (opr_any fun W' => bin_ok (W := W') op) ha hb) fun σ H Q ⟨ρ, φ, h, sm, re, o⟩ => two_of sm re o
theorem je_cmp {op : CmpOp} (hu : X.A.units + 66 < cLine) (ha : JE X W C a ea) (hb : JE X W C b eb) (hm : behindInMarks op b = false := by rfl) : JE X W C (.Compare a [op] [b] pos) (.cmp op ea eb) :=
  za5 (pe_cmpR (opr_any fun W' => cmp_ok (W := W') hu op) ha hb hm) fun σ H Q ⟨ρ, φ, h, sm, re, o⟩ => two_of sm re o
theorem zaj (hu : X.A.units + 66 < cLine) (ha : JE X W C a ea) (hb : JE X W C b eb) (hs : PlainIx b := by exact fun _ _ => rfl) : JE X W C (.Subscript a b pos) (.idx ea eb) :=
  za5 (pe_ix (ixr_any fun W' => ix_ok (W := W') (by omega)) ha hb hs) fun σ H Q ⟨ρ, φ, h, sm, re, o⟩ => two_of sm re o
/-- a and b (and ..): the rest of the list -/
theorem je_one {op : BoolOp} (ha : JE X W C a ea) : JE X W C (.BoolOp op [a] pos) ea := pe_one ha
theorem je_and {rest : List Expr} (ha : JE X W C a ea) (hb : JE X W C (.BoolOp .And (b :: rest) pos) eb) : JE X W C (.BoolOp .And (a :: b :: rest) pos) (.band ea eb) := za5 (pe_and ha hb) fun σ H Q ⟨ρ, φ, h, sm, re, o⟩ =>
  ⟨ρ, φ, h, sm, re, (Out.bind (rel2 := RV (zOf X)) (show Out (zOf X) X.mg (RV (zOf X)) φ H (atS W σ) Q ((evG C ea false ρ h).bind _) from o)).imp fun x H1 ⟨φ1, va, h1, x1, s1, r1, o1⟩ => by
    cases va with
    | bl i =>
      refine ⟨i, r1, ?_⟩
      cases i with
      | true => exact ⟨ρ, φ1, h1, s1, re.mono x1, o1⟩
      | false => exact o1.at s1 rfl
    | _ => exact (show False from o1).elim⟩
theorem evT_fin {K : ZZ} {mg : Str → Option Value} {φ : List Addr} {H : Hp} {W : XK} {Q : Bool → Hp → Prop} {m : R PV} (o : Out K mg RI φ H W Q (asB (fin true m))) :
    Out K mg (RV K) φ H W (fun x H' => ∃ k, TruV K.K x H' k ∧ Q k H') m := by
  unfold asB fin at o
  rw [if_pos rfl] at o
  cases m with
  | ok p h =>
    intro φ' H' v x s r
    rw [R.bind_ok] at o
    cases e : truthy h p with
    | none => rw [e] at o; exact (show False from o).elim
    | some k =>
      rw [e] at o
      exact ⟨k, tru_of s r e, (show Out K mg RI φ H W Q (.ok k h) from o) φ' H' k x s rfl⟩
  | ex x h => exact o
  | no => exact o
/-- a test that is a value's truth -/
theorem jt_val (ha : JE X W C a ea) (he : ∀ whole, isTrue a X.env whole = (do let v ← whole; standAt a.pos; holding [v] (PySem.truthy v)) := by intro _; rfl) (hf : ∀ ρ h, evG C ea true ρ h = fin true (evG C ea false ρ h) := by intro _ _; rfl) : JT X W C a ea :=
  pt_imp (pt_truth ha he) fun σ H Q ⟨ρ, φ, h, sm, re, o⟩ => ⟨ρ, φ, h, sm, re, evT_fin (by
    have o' : Out (zOf X) X.mg RI φ H (atS W σ) Q (asB (evG C ea true ρ h)) := o
    rw [hf] at o'
    exact o')⟩
theorem ofO_bl {o : Option Bool} {f : Bool → Bool} {h h' : PH} {p : PV} (e : ofO (o.map fun b => PV.bl (f b)) h = .ok p h') : ∃ k, p = .bl k := by
  cases o with
  | none => cases e
  | some k => cases e; exact ⟨_, rfl⟩
theorem cmp_bool {op : CmpOp} {a b : PV} {h : PH} {p : PV} {h' : PH} (e : cmpop op a b h = .ok p h') : ∃ k, p = .bl k := by
  unfold cmpop at e
  split at e
  all_goals first
    | exact ofO_bl (f := id) e
    | exact ofO_bl (f := fun b => !b) e
    | (cases e; exact ⟨_, rfl⟩)
    | cases e
/-- a comparison as a test -/
theorem zbd {op : CmpOp} (hu : X.A.units + 66 < cLine) (ha : JE X W C a ea) (hb : JE X W C b eb) (hm : behindInMarks op b = false := by rfl) : JT X W C (.Compare a [op] [b] pos) (.cmp op ea eb) :=
  pt_imp (pt_cmpR (opr_any fun W' => cmp_ok (W := W') hu op) ha hb hm) fun σ H Q ⟨ρ, φ, h, sm, re, o⟩ => by
    have o' : Out (zOf X) X.mg RI φ H (atS W σ) Q (asB (fin true ((evG C ea false ρ h).bind fun x h1 => (evG C eb false ρ h1).bind fun y h2 => cmpop op x y h2))) := o
    have key : Out (zOf X) X.mg (RV (zOf X)) φ H (atS W σ) (fun x H' => ∃ k, x = .bl k ∧ Q k H') ((evG C ea false ρ h).bind fun x h1 => (evG C eb false ρ h1).bind fun y h2 => cmpop op x y h2) := by
      generalize hm : ((evG C ea false ρ h).bind fun x h1 => (evG C eb false ρ h1).bind fun y h2 => cmpop op x y h2) = m at o'
      cases m with
      | ok p h' =>
        intro φ' H' v x s r
        have hp : ∃ k, p = .bl k := by
          cases e1 : evG C ea false ρ h with
          | ok va h1 =>
            rw [e1, R.bind_ok] at hm
            cases e2 : evG C eb false ρ h1 with
            | ok vb h2 => rw [e2, R.bind_ok] at hm; exact cmp_bool hm
            | ex _ _ => rw [e2] at hm; cases hm
            | no => rw [e2] at hm; cases hm
          | ex _ _ => rw [e1] at hm; cases hm
          | no => rw [e1] at hm; cases hm
        obtain ⟨k, rfl⟩ := hp
        exact ⟨k, r, (show Out (zOf X) X.mg RI φ H (atS W σ) Q (.ok k h') from o') φ' H' k x s rfl⟩
      | ex x h' => exact o'
      | no => exact o'
    exact two_of sm re key
theorem evT_not (ρ : Env) (h : PH) : evT C (.nt ea) ρ h = (evT C ea ρ h).bind fun k h1 => .ok (!k) h1 := by
  unfold evT
  show asB ((evG C ea true ρ h).bind _) = (asB (evG C ea true ρ h)).bind _
  cases evG C ea true ρ h with
  | ok p h1 => cases p <;> rfl
  | ex x h1 => rfl
  | no => rfl
theorem evT_and (ρ : Env) (h : PH) : evT C (.band ea eb) ρ h = (evT C ea ρ h).bind fun k h1 => if k then evT C eb ρ h1 else .ok false h1 := by
  unfold evT
  show asB ((evG C ea true ρ h).bind _) = (asB (evG C ea true ρ h)).bind _
  cases evG C ea true ρ h with
  | ok p h1 =>
    cases p with
    | bl k => cases k <;> rfl
    | _ => rfl
  | ex x h1 => rfl
  | no => rfl
theorem evT_or (ρ : Env) (h : PH) : evT C (.bor ea eb) ρ h = (evT C ea ρ h).bind fun k h1 => if k then .ok true h1 else evT C eb ρ h1 := by
  unfold evT
  show asB ((evG C ea true ρ h).bind _) = (asB (evG C ea true ρ h)).bind _
  cases evG C ea true ρ h with
  | ok p h1 =>
    cases p with
    | bl k => cases k <;> rfl
    | _ => rfl
  | ex x h1 => rfl
  | no => rfl
theorem jt_not (ha : JT X W C a ea) : JT X W C (.UnaryOp .Not a pos) (.nt ea) := pt_imp (pt_not ha) fun σ H Q ⟨ρ, φ, h, sm, re, o⟩ => by
  rw [evT_not] at o
  exact ⟨ρ, φ, h, sm, re, (Out.bind (rel2 := RI) o).imp fun k H1 ⟨φ1, k1, h1, x1, s1, r1, o1⟩ => by
    have r1' : k1 = k := r1
    subst r1'
    exact o1.at s1 rfl⟩
abbrev JW (X : Cx) (W : WX) (C : Calls) (a : Expr) (e : E) : Prop := PW X a (tT (zOf X) X.mg W C e)
theorem pw_imp {t t' : TT} (p : PW X a t) (f : ∀ σ H Q, t' σ H Q → t σ H Q) : PW X a t' := ⟨fun wh pins s σ H Q I h => p.run wh pins s σ H Q I (f σ H Q h)⟩
theorem jw_and1 (ha : JT X W C a ea) : JW X W C (.BoolOp .And [a] pos) ea := pw_and1 ha
theorem jw_or1 (ha : JT X W C a ea) : JW X W C (.BoolOp .Or [a] pos) ea := pw_or1 ha
theorem jw_and {rest : List Expr} (ha : JT X W C a ea) (hb : JW X W C (.BoolOp .And (b :: rest) pos) eb) : JW X W C (.BoolOp .And (a :: b :: rest) pos) (.band ea eb) := pw_imp (pw_and ha hb) fun σ H Q ⟨ρ, φ, h, sm, re, o⟩ => by
  rw [evT_and] at o
  exact ⟨ρ, φ, h, sm, re, (Out.bind (rel2 := RI) o).imp fun k H1 ⟨φ1, k1, h1, x1, s1, r1, o1⟩ => by
    have r1' : k1 = k := r1
    subst r1'
    cases k1 with
    | true => exact ⟨ρ, φ1, h1, s1, re.mono x1, o1⟩
    | false => exact (show Out (zOf X) X.mg RI φ1 H1 (atS W σ) Q (.ok false h1) from o1).at s1 rfl⟩
theorem jw_or {rest : List Expr} (ha : JT X W C a ea) (hb : JW X W C (.BoolOp .Or (b :: rest) pos) eb) : JW X W C (.BoolOp .Or (a :: b :: rest) pos) (.bor ea eb) := pw_imp (pw_or ha hb) fun σ H Q ⟨ρ, φ, h, sm, re, o⟩ => by
  rw [evT_or] at o
  exact ⟨ρ, φ, h, sm, re, (Out.bind (rel2 := RI) o).imp fun k H1 ⟨φ1, k1, h1, x1, s1, r1, o1⟩ => by
    have r1' : k1 = k := r1
    subst r1'
    cases k1 with
    | false => exact ⟨ρ, φ1, h1, s1, re.mono x1, o1⟩
    | true => exact (show Out (zOf X) X.mg RI φ1 H1 (atS W σ) Q (.ok true h1) from o1).at s1 rfl⟩
theorem jt_bool (h : JW X W C a ea) : JT X W C a ea := PW.pt h
/-- a if t else b -/
theorem ite_eq (ρ : Env) (h : PH) : evG C (.ite ec ea eb) false ρ h = (evT C ec ρ h).bind fun k h1 => if k then evG C ea false ρ h1 else evG C eb false ρ h1 := by
  unfold evT
  show fin false ((evG C ec true ρ h).bind _) = (asB (evG C ec true ρ h)).bind _
  unfold fin
  rw [if_neg Bool.false_ne_true]
  cases evG C ec true ρ h with
  | ok p h1 =>
    cases p with
    | bl k => cases k <;> rfl
    | _ => rfl
  | ex x h1 => rfl
  | no => rfl
theorem je_ite (hc : JT X W C c ec) (ha : JE X W C a ea) (hb : JE X W C b eb) : JE X W C (.IfExp c a b pos) (.ite ec ea eb) := za5 (pe_ifExp hc ha hb) fun σ H Q ⟨ρ, φ, h, sm, re, o⟩ => by
  rw [ite_eq] at o
  exact ⟨ρ, φ, h, sm, re, (Out.bind (rel2 := RI) o).imp fun k H1 ⟨φ1, k1, h1, x1, s1, r1, o1⟩ => by
    have r1' : k1 = k := r1
    subst r1'
    cases k1 with
    | true => exact ⟨ρ, φ1, h1, s1, re.mono x1, o1⟩
    | false => exact ⟨ρ, φ1, h1, s1, re.mono x1, o1⟩⟩
theorem zae : JA X W C [] [] := pa_imp pa_nil fun σ H Q ⟨ρ, φ, h, sm, re, o⟩ => (show Out (zOf X) X.mg (RVs (zOf X)) φ H (atS W σ) Q (.ok [] h) from o).at sm rfl
theorem zab {es : List Expr} {ees : List E} (ha : JE X W C a ea) (hr : JA X W C es ees) (hs : starEach (a :: es) X.env = (false, eval a X.env) :: starEach es X.env := by rfl) : JA X W C (a :: es) (ea :: ees) :=
  pa_imp (pa_cons ha hr hs) fun σ H Q ⟨ρ, φ, h, sm, re, o⟩ =>
    ⟨ρ, φ, h, sm, re, (Out.bind (rel2 := RV (zOf X)) (show Out (zOf X) X.mg (RVs (zOf X)) φ H (atS W σ) Q ((evG C ea false ρ h).bind fun x h1 => (evGs C ees ρ h1).bind fun l h2 => .ok (x :: l) h2) from o)).imp fun x H1 ⟨φ1, va, h1, x1, s1, r1, o1⟩ =>
      ⟨ρ, φ1, h1, s1, re.mono x1, (Out.bind (rel2 := RVs (zOf X)) o1).imp fun xs H2 ⟨φ2, vb, h2, x2, s2, r2, o2⟩ => o2.at s2 (RVs.cons (r1.mono x2) r2)⟩⟩
/-- a list of values, then what is made of them -/
theorem list_of {σ : St} {H : Hp} {Q : VK} {ρ : Env} {φ : List Addr} {h : PH} {es : List E} {f : List PV → PH → R PV} (sm : Sim (zOf X) φ h H) (re : RE (zOf X) φ H ρ σ) (o : Out (zOf X) X.mg (RV (zOf X)) φ H (atS W σ) Q ((evGs C es ρ h).bind fun l h1 => f l h1)) :
    tAs (zOf X) X.mg W C es σ H (fun vs H1 => ∃ φ1 l h1, Sim (zOf X) φ1 h1 H1 ∧ RVs (zOf X) φ1 H1 l vs ∧ Out (zOf X) X.mg (RV (zOf X)) φ1 H1 (atS W σ) Q (f l h1)) :=
  ⟨ρ, φ, h, sm, re, (Out.bind (rel2 := RVs (zOf X)) o).imp fun xs H1 ⟨φ1, l, h1, x1, s1, r1, o1⟩ => ⟨φ1, l, h1, s1, r1, o1⟩⟩
theorem ta_imp {es : List E} {σ : St} {H : Hp} {Q Q' : List V → Hp → Prop} (f : ∀ vs H, Q vs H → Q' vs H) (t : tAs (zOf X) X.mg W C es σ H Q) : tAs (zOf X) X.mg W C es σ H Q' := by
  obtain ⟨ρ, φ, h, sm, re, o⟩ := t
  exact ⟨ρ, φ, h, sm, re, o.imp f⟩
theorem je_tup {es : List Expr} {ees : List E} {k : Nat} (ha : JA X W C es ees) : JE X W C (.Tuple es k pos) (.tup ees) := za5 (pe_tup ha) fun σ H Q ⟨ρ, φ, h, sm, re, o⟩ =>
  ta_imp (fun vs H1 ⟨φ1, l, h1, s1, r1, o1⟩ => by
    unfold tupO at o1
    split at o1
    · rename_i hm
      exact ⟨by rw [← r1.length]; exact line_ok hm, o1.tupn s1 r1⟩
    · exact o1.elim) (list_of (f := tupO) sm re o)
theorem je_lst {es : List Expr} {ees : List E} (ha : JA X W C es ees) : JE X W C (.List es pos) (.lst ees) := za5 (pe_lst ha) fun σ H Q ⟨ρ, φ, h, sm, re, o⟩ =>
  ta_imp (fun vs H1 ⟨φ1, l, h1, s1, r1, o1⟩ => by
    unfold Sb.alloc at o1
    split at o1
    · rename_i hm
      exact ⟨by rw [← r1.length]; exact line_ok hm, o1.alloc s1 r1⟩
    · exact o1.elim) (list_of (f := Sb.alloc) sm re o)
end
end Sb
namespace Sb
open PySem PySem.Spec L2
def spF (K : ZZ) (mg : Str → Option Value) (C : Calls) (fi np : Nat) : Sp := fun vs H Q E => vs.length = np ∧ ∃ φ h ps, Sim K φ h H ∧ RVs K φ H ps vs ∧ Out K mg (RV K) φ H E Q (C fi ps h)
/-- the def named x is the fi-th; ds: the defaults that fill up -/
structure FnI (P : Program) (w : World) (K : PySem.W.Frag) (mg : Str → Option Value) (base : Heap) (C : Calls) (k : Nat) (x : Str) (fi : Nat) (np : Nat) (ds : List Value) : Prop where
  ex : ∃ (fa : Addr) (fd : FuncData) (ps : List Str), ps.length = np ∧ FnOk P w K mg base (L2N.CX P w) (2 * k + 3) fa fd ps (spF ⟨K, [], P, w⟩ mg C fi np) ∧ mg x = some (.ref fa) ∧ PySem.W.keepIn K (.ref fa) = true ∧ Binds K fd ps ds
theorem evGs_length {C : Calls} : ∀ {es : List E} {ρ : Env} {h h' : PH} {l : List PV}, evGs C es ρ h = .ok l h' → l.length = es.length
  | [], ρ, h, h', l, e => by
    cases e
    rfl
  | e1 :: es, ρ, h, h', l, e => by
    have e' : ((evG C e1 false ρ h).bind fun x h1 => (evGs C es ρ h1).bind fun l h2 => R.ok (x :: l) h2) = .ok l h' := e
    cases z1 : evG C e1 false ρ h with
    | ok x h1 =>
      rw [z1, R.bind_ok] at e'
      cases z2 : evGs C es ρ h1 with
      | ok l2 h2 =>
        rw [z2, R.bind_ok] at e'
        cases e'
        rw [List.length_cons, List.length_cons, evGs_length z2]
      | ex _ _ => rw [z2] at e'; cases e'
      | no => rw [z2] at e'; cases e'
    | ex _ _ => rw [z1] at e'; cases e'
    | no => rw [z1] at e'; cases e'
section
variable {X : Cx} {W : WX} {C : Calls} {a b c : Expr} {as : List Expr} {pos p : Pos} {ea eb ec : E} {ees : List E} {x : Str} {k : Nat}
theorem call_red {fi np : Nat} {ds : List PV} {dvs : List V} {σ : St} {H : Hp} {Q : VK} {ρ : Env} {φ : List Addr} {h : PH} (hl : ees.length + ds.length = np) (rd : ∀ φ H, RVs (zOf X) φ H ds dvs) (sm : Sim (zOf X) φ h H) (re : RE (zOf X) φ H ρ σ)
    (o : Out (zOf X) X.mg (RV (zOf X)) φ H (atS W σ) Q ((evGs C ees ρ h).bind fun l h1 => C fi (l ++ ds) h1)) : tCallSD (spF (zOf X) X.mg C fi np) dvs (WE W) (tAs (zOf X) X.mg W C ees) σ H Q := by
  have key : Out (zOf X) X.mg (RVs (zOf X)) φ H (atS W σ) (fun vs H1 => spF (zOf X) X.mg C fi np (vs ++ dvs) H1 Q (WE W σ)) (evGs C ees ρ h) := by
    cases e : evGs C ees ρ h with
    | ok l h1 =>
      rw [e, R.bind_ok] at o
      intro φ' H' vs x s r
      refine ⟨?_, φ', h1, l ++ ds, s, r.append (rd φ' H'), o.mono x⟩
      rw [List.length_append, ← r.length, ← (rd φ' H').length, evGs_length e]
      exact hl
    | ex y h1 => rw [e] at o; exact o
    | no => rw [e] at o; exact o
  exact ⟨ρ, φ, h, sm, re, key⟩
theorem je_calld {fi np : Nat} {ds : List PV} {dvs : List V} {dus : List Value} (G : FnI X.prog X.w X.K X.mg X.base C k x fi np dus) (hcalm : X.calm = true) (rv : Vals dvs dus) (rd : ∀ φ H, RVs ⟨X.K, [], X.prog, X.w⟩ φ H ds dvs) (hr : Room (2 * k + 4) X.A) (tk : L2N.Takes X W) (ha : JA X W C (a :: as) ees)
    (hl : ees.length + ds.length = np := by rfl) (hg : Gl X x := by rfl) (hdb : (x == ("__debug__" : Str)) = false := by decide) (he : starEach (a :: as) X.env = (false, eval a X.env) :: starEach as X.env := by rfl) (hpl : (backTo pos (starEach as X.env)).any (·.1) = false := by rfl) :
    JE X W C (.Call (.Name x p) (a :: as) [] pos) (.call fi ees ds) := by
  obtain ⟨fa, fd, ps, hps, F, hm, hk, hb⟩ := G.ex
  have hz : zOf X = ⟨X.K, [], X.prog, X.w⟩ := z_calm hcalm
  rw [← hz] at F
  rw [← hz] at rd
  exact za5 (pe_callSD F (hr.mono (by omega)) hg hm hk hb rv (fun σ => L2N.passAt tk σ) ha hdb he hpl) fun σ H Q ⟨ρ, φ, h, sm, re, o⟩ => call_red hl rd sm re o
theorem zam {fi np : Nat} (G : FnI X.prog X.w X.K X.mg X.base C k x fi np []) (hcalm : X.calm = true) (hr : Room (2 * k + 4) X.A) (tk : L2N.Takes X W) (ha : JA X W C (a :: as) ees)
    (hl : ees.length + 0 = np := by rfl) (hg : Gl X x := by rfl) (hdb : (x == ("__debug__" : Str)) = false := by decide) (he : starEach (a :: as) X.env = (false, eval a X.env) :: starEach as X.env := by rfl) (hpl : (backTo pos (starEach as X.env)).any (·.1) = false := by rfl) :
    JE X W C (.Call (.Name x p) (a :: as) [] pos) (.call fi ees []) := je_calld (ds := []) (dvs := []) G hcalm .nil (fun _ _ => rfl) hr tk ha hl hg hdb he hpl
theorem cb_red {f : List PV → PH → R PV} {σ : St} {H : Hp} {Q : VK} {ρ : Env} {φ : List Addr} {h : PH} (sm : Sim (zOf X) φ h H) (re : RE (zOf X) φ H ρ σ)
    (o : Out (zOf X) X.mg (RV (zOf X)) φ H (atS W σ) Q ((evGs C ees ρ h).bind fun l h1 => f l h1)) : tCB (fun vs H Q => ∃ W', rCa (zOf X) X.mg W' f vs H Q) (tAs (zOf X) X.mg W C ees) σ H Q :=
  ta_imp (fun vs H1 ⟨φ1, l, h1, s1, r1, o1⟩ => ⟨_, φ1, h1, l, s1, r1, o1⟩) (list_of sm re o)
theorem cr_any' {f : Value} {r : XK → List V → Hp → VK → Prop} (h : ∀ W, CallR X f (r W)) : CallR X f (fun vs H Q => ∃ W, r W vs H Q) := fun pins s σ H xs us Q I rs ⟨W, q⟩ => h W pins s σ H xs us Q I rs q
theorem je_bi (bi : BI) {id : String} (hc : ∀ W', CallR X (.builtin id) (rCa (zOf X) X.mg W' (biF bi))) (hm : X.mg x = none) (hv : bootBuiltins x = some (.builtin id)) (ha : JA X W C (a :: as) ees) (hg : Gl X x := by rfl) (hn : x ≠ "__name__" := by decide) (hdb : (x == ("__debug__" : Str)) = false := by decide)
    (he : starEach (a :: as) X.env = (false, eval a X.env) :: starEach as X.env := by rfl) (hpl : (backTo pos (starEach as X.env)).any (·.1) = false := by rfl) : JE X W C (.Call (.Name x p) (a :: as) [] pos) (.bi bi ees) :=
  za5 (pe_callB (cr_any' hc) hg hm hv ha hn hdb he hpl) fun σ H Q ⟨ρ, φ, h, sm, re, o⟩ => cb_red sm re o
theorem je_biT (bi : BI) {T : String} (hc : ∀ W', CallR X (.type T) (rCa (zOf X) X.mg W' (biF bi))) (hm : X.mg x = none) (hv : bootBuiltins x = some (.type T)) (ha : JA X W C (a :: as) ees) (hg : Gl X x := by rfl) (hn : x ≠ "__name__" := by decide) (hdb : (x == ("__debug__" : Str)) = false := by decide)
    (he : starEach (a :: as) X.env = (false, eval a X.env) :: starEach as X.env := by rfl) (hpl : (backTo pos (starEach as X.env)).any (·.1) = false := by rfl) : JE X W C (.Call (.Name x p) (a :: as) [] pos) (.bi bi ees) :=
  za5 (pe_callTy (cr_any' hc) hg hm hv ha hn hdb he hpl) fun σ H Q ⟨ρ, φ, h, sm, re, o⟩ => cb_red sm re o
theorem tyV_of {K : ZZ} {φ : List Addr} {h : PH} {H : Hp} {v : PV} {x : V} {T : Ty} (hT : T = .list ∨ T = .str ∨ T = .dict) (sm : Sim K φ h H) (r : RV K φ H v x) (e : tyOf h v = some T) : tyV K.K T.nm x H := by
  cases v with
  | non => cases e; rcases hT with z | z | z <;> cases z
  | bl c => cases e; rcases hT with z | z | z <;> cases z
  | int i => cases e; rcases hT with z | z | z <;> cases z
  | str z =>
    cases e
    rw [show x = .str z from r]
    rfl
  | ty t => cases e
  | cls t => cases e
  | xc t ns vs => cases e
  | ste l => cases e
  | exv t ns vs => cases e
  | tup l => cases e; rcases hT with z | z | z <;> cases z
  | cl l =>
    obtain ⟨ad, vs, e1, q, r'⟩ := r
    cases e
    subst e1
    exact .inl ⟨rfl, vs, q.sq⟩
  | ref n =>
    obtain ⟨ad, e1, q⟩ := r
    subst e1
    unfold tyOf at e
    cases z : h[n]? with
    | none => simp only [z] at e; cases e
    | some o =>
      cases o with
      | lst l =>
        simp only [z] at e
        cases e
        obtain ⟨a', vs, e4, e5, r'⟩ := sm.lst z
        rw [q] at e4
        cases e4
        exact .inl ⟨rfl, vs, SqL.of e5⟩
      | dct l =>
        simp only [z] at e
        cases e
        obtain ⟨a', kvs, e4, e5, ek, r'⟩ := sm.dct z
        rw [q] at e4
        cases e4
        exact .inr (.inr (.inl ⟨rfl, .inl ⟨kvs, e5⟩⟩))
      | obj c l => simp only [z] at e; cases e
      | dtp l => simp only [z] at e; cases e
theorem mr_any {id : String} {r : XK → V → List V → Hp → VK → Prop} (h : ∀ W, MtR X id (r W)) : MtR X id (fun x vs H Q => ∃ W, r W x vs H Q) := fun pins s σ H x xs v us Q I rx rs ⟨W, q⟩ => h W pins s σ H x xs v us Q I rx rs q
theorem je_mth (m : MT) {o : Expr} {eo : E} {name : Str} {apos cpos : Pos} {id : String} (pa : PlainAttrs m.ty.nm) (slot : Slot m.ty.nm name id) (hty : typeOf (.builtin id) = pure (.type "method_descriptor")) (hm : ∀ W', MtR X id (rMt (zOf X) X.mg W' (mtF m))) (ho : JE X W C o eo) (ha : JA X W C (a :: as) ees)
    (hT : m.ty = .list ∨ m.ty = .str ∨ m.ty = .dict := by first | exact .inl rfl | exact .inr (.inl rfl) | exact .inr (.inr rfl)) (hbase : attributeBase o name X.env (eval o X.env) = eval o X.env := by rfl)
    (hfew : ((backTo cpos (starEach (a :: as) X.env)).all (fun x => !x.1) && (backToKw cpos (keywordEach [] X.env)).all (fun x => x.1.isSome)
      && decide ((a :: as).length + ([] : List Keyword).length + (if ([] : List Keyword).isEmpty then 0 else 1) < 30)) = true := by rfl)
    (hline : (apos.endLine == cpos.line) = true := by rfl) (hs : starEach (a :: as) X.env = (false, eval a X.env) :: starEach as X.env := by rfl) (hplain : (backTo cpos (starEach as X.env)).any (·.1) = false := by rfl) :
    JE X W C (.Call (.Attribute o name apos) (a :: as) [] cpos) (.mth m eo ees) :=
  za5 (pe_bm pa slot hty (mr_any hm) ho ha hbase hfew hline hs hplain) fun σ H Q ⟨ρ, φ, h, sm, re, o⟩ =>
    ⟨ρ, φ, h, sm, re, (Out.bind (rel2 := RV (zOf X)) (show Out (zOf X) X.mg (RV (zOf X)) φ H (atS W σ) Q ((evG C eo false ρ h).bind fun x h1 => if tyOf h1 x = some m.ty then (evGs C ees ρ h1).bind fun l h2 => mtF m x l h2 else .no) from o)).imp fun x H1 ⟨φ1, vx, h1, x1, s1, r1, o1⟩ => by
      split at o1
      · rename_i ht
        refine ⟨tyV_of hT s1 r1 ht, ρ, φ1, h1, s1, re.mono x1, (Out.bind (rel2 := RVs (zOf X)) o1).imp fun xs H2 ⟨φ2, l, h2, x2, s2, r2, o2⟩ => ⟨_, φ2, h2, vx, l, s2, r1.mono x2, r2, o2⟩⟩
      · exact o1.elim⟩
end
structure WalkOk (K : ZZ) (J : It) (φ0 : List Addr) (H0 : Hp) (items : List PV) (kp : Keep) : Prop where
  go : ∀ (i : Nat) (φ : List Addr) (h : PH) (H : Hp) (p : PV), Kp φ0 φ H0 H → Sim K φ h H → zbf kp h → items[i]? = some p → J.go i H ∧ ∀ v H', J.yld i H v H' → Ext φ φ H H' ∧ Sim K φ h H' ∧ RV K φ H' p v
  stop : ∀ (i : Nat) (φ : List Addr) (h : PH) (H : Hp), Kp φ0 φ H0 H → Sim K φ h H → zbf kp h → items.length ≤ i → J.stop i H
noncomputable def evI (C : Calls) (k : ITK) (its : List E) (ρ : Env) (h : PH) : R (List PV × Keep) := (evGs C its ρ h).bind fun l h1 => ofO (walkF k l h1) h1
def relW (K : ZZ) (φ : List Addr) (H : Hp) (w : List PV × Keep) (J : It) : Prop := WalkOk K J φ H w.1 w.2
def tI (K : ZZ) (mg : Str → Option Value) (W : WX) (C : Calls) (k : ITK) (its : List E) : TI := fun σ H Q => ∃ ρ φ h, Sim K φ h H ∧ RE K φ H ρ σ ∧ Out K mg (relW K) φ H (atS W σ) Q (evI C k its ρ h)
abbrev JI (X : Cx) (W : WX) (C : Calls) (tg a : Expr) (k : ITK) (its : List E) : Prop := PI X tg a (tI (zOf X) X.mg W C k its)
theorem pi_imp {X : Cx} {tg a : Expr} {t t' : TI} (p : PI X tg a t) (f : ∀ σ H Q, t' σ H Q → t σ H Q) : PI X tg a t' := ⟨fun pins s σ H Q I h => p.run pins s σ H Q I (f σ H Q h)⟩
def iSeqS (K : PySem.W.Frag) (tl : TE) : TI := fun σ H R => tl σ H fun x H1 => (∃ a, x = .ref a ∧ (((∃ xs, SqL K H1 a xs) ∧ R (Itl K a) H1) ∨ ((∃ xs, SqT K H1 a xs) ∧ R (Itt K a) H1))) ∨ ∃ z, x = .str z ∧ R (Its z) H1
theorem pi_seqS {X : Cx} {tg l : Expr} {tl : TE} (hl : PE X l tl) : PI X tg l (iSeqS X.K tl) := by
  refine ⟨fun pins s σ H R I h => ?_⟩
  refine thn (hl.run pins s σ H _ I h) fun v s1 ⟨x, H1, I1, r1, q1⟩ => ?_
  rcases q1 with ⟨a, e, q1⟩ | ⟨z, e, q⟩
  case inr =>
    subst e
    obtain ⟨t, rfl⟩ := r1
    cases ha : z.cps.all (· < 128)
    · exact wpAny_pyIter_wide ha (pi_one (tk := s1.toks) I1 _ (turn_str _ z t "str_iterator" (.inr rfl)) ⟨_, Heap.get?_push_size _ rfl, rfl, rfl⟩ q)
    · exact wpAny_pyIter_ascii ha (pi_one (tk := s1.toks) I1 _ (turn_str _ z t "str_ascii_iterator" (.inl rfl)) ⟨_, Heap.get?_push_size _ rfl, rfl, rfl⟩ q)
  subst e
  cases r1
  rcases q1 with ⟨⟨xs, hq⟩, q⟩ | ⟨⟨xs, hq⟩, q⟩
  · obtain ⟨its, rv, p, hz⟩ := I1.list hq
    refine wpAny_pyIter_list p.isList ?_
    refine ⟨s1.heap.objs.size, [s1.heap.objs.size], _, _, H1, rfl, I1.kept (t' := s1.toks) fun b o e => Heap.get?_push_of_some _ e, turn_list a _, ⟨_, Heap.get?_push_size _ rfl, rfl, rfl⟩, fun b hb => ?_, q⟩
    have e : b = s1.heap.objs.size := by simpa using hb
    subst e
    exact I1.fpOk (Nat.le_refl _) (I1.hok.fresh (Nat.le_refl _))
  · obtain ⟨its, rv, p, hz⟩ := I1.tuple hq
    refine wpAny_pyIter_tuple (show s1.heap.IsTuple a its.toArray from p) ?_
    refine ⟨s1.heap.objs.size, [s1.heap.objs.size], _, _, H1, rfl, I1.kept (t' := s1.toks) fun b o e => Heap.get?_push_of_some _ e, turn_tuple a _, ⟨_, Heap.get?_push_size _ rfl, rfl, rfl⟩, fun b hb => ?_, q⟩
    have e : b = s1.heap.objs.size := by simpa using hb
    subst e
    exact I1.fpOk (Nat.le_refl _) (I1.hok.fresh (Nat.le_refl _))
section
variable {K : ZZ} {φ0 : List Addr} {H0 : Hp}
/-- a list that every later heap has as it was -/
theorem walk_list {a : Addr} {items : List PV} {kp : Keep} (st : ∀ φ h H, Kp φ0 φ H0 H → Sim K φ h H → zbf kp h → ∃ vs, SqL K.K H a vs ∧ RVs K φ H items vs) : WalkOk K (Itl K.K a) φ0 H0 items kp where
  go := fun i φ h H p x s q e => by
    obtain ⟨vs, hs, r⟩ := st φ h H x s q
    obtain ⟨v, e1, rv⟩ := r.get e
    refine ⟨⟨vs, v, hs, e1⟩, fun w H' y => ?_⟩
    obtain ⟨y1, y2⟩ := y
    subst y1
    have := y2 vs hs
    rw [e1] at this
    cases this
    exact ⟨Ext.refl _ _, s, rv⟩
  stop := fun i φ h H x s q e => by
    obtain ⟨vs, hs, r⟩ := st φ h H x s q
    exact ⟨vs, hs, by rw [← r.length]; exact e⟩
theorem walk_tup {a : Addr} {items : List PV} {kp : Keep} (st : ∀ φ h H, Kp φ0 φ H0 H → Sim K φ h H → zbf kp h → ∃ vs, SqT K.K H a vs ∧ RVs K φ H items vs) : WalkOk K (Itt K.K a) φ0 H0 items kp where
  go := fun i φ h H p x s q e => by
    obtain ⟨vs, hs, r⟩ := st φ h H x s q
    obtain ⟨v, e1, rv⟩ := r.get e
    refine ⟨⟨vs, v, hs, e1⟩, fun w H' y => ?_⟩
    obtain ⟨y1, y2⟩ := y
    subst y1
    have := y2 vs hs
    rw [e1] at this
    cases this
    exact ⟨Ext.refl _ _, s, rv⟩
  stop := fun i φ h H x s q e => by
    obtain ⟨vs, hs, r⟩ := st φ h H x s q
    exact ⟨vs, hs, by rw [← r.length]; exact e⟩
theorem walk_str (z : Str) : WalkOk K (Its z) φ0 H0 (z.cps.toList.map fun c => .str ⟨#[c]⟩) [] where
  go := fun i φ h H p x s q e => by
    rw [List.getElem?_map] at e
    obtain ⟨c, e1, e2⟩ := Option.map_eq_some_iff.mp e
    subst e2
    have e3 : z.cps[i]? = some c := by simpa using e1
    refine ⟨(Array.getElem?_eq_some_iff.mp e3).1, fun w H' y => ?_⟩
    obtain ⟨y1, c', y2, y3⟩ := y
    subst y1
    rw [e3] at y2
    cases y2
    exact ⟨Ext.refl _ _, s, y3⟩
  stop := fun i φ h H x s q e => by
    rw [List.length_map] at e
    show z.cps.size ≤ i
    simpa using e
theorem walk_range (n : Int) : WalkOk K (Itr 0 n.toNat) φ0 H0 (rangeP n) [] where
  go := fun i φ h H p x s q e => by
    have hi : i < n.toNat := by
      have := (List.getElem?_eq_some_iff.mp e).1
      unfold rangeP at this
      rw [List.length_map, List.length_range] at this
      exact this
    refine ⟨hi, fun v H' y => ?_⟩
    obtain ⟨y1, y2⟩ := y
    subst y1 y2
    have ep : p = .int (i : Nat) := by
      unfold rangeP at e
      rw [List.getElem?_map, List.getElem?_range hi] at e
      exact (Option.some.inj e).symm
    subst ep
    refine ⟨Ext.refl _ _, s, ?_⟩
    show V.int (0 + (i : Int)) = V.int (i : Int)
    rw [Int.zero_add]
  stop := fun i φ h H x s q e => by
    unfold rangeP at e
    rw [List.length_map, List.length_range] at e
    exact e
theorem zipP_get : ∀ {l k : List PV} {i : Nat} {p : PV}, (zipP l k)[i]? = some p → ∃ a b, l[i]? = some a ∧ k[i]? = some b ∧ p = .tup [a, b]
  | [], _, _, _, e => by simp [zipP] at e
  | _ :: _, [], _, _, e => by simp [zipP] at e
  | a :: l, b :: k, 0, p, e => by
    simp [zipP] at e
    exact ⟨a, b, rfl, rfl, e.symm⟩
  | a :: l, b :: k, i + 1, p, e => by
    simp [zipP] at e
    simpa using zipP_get e
theorem zipP_len : ∀ {l k : List PV} {i : Nat}, (zipP l k).length ≤ i → l.length ≤ i ∨ k.length ≤ i
  | [], _, i, _ => .inl (Nat.zero_le _)
  | _ :: _, [], i, _ => .inr (Nat.zero_le _)
  | a :: l, b :: k, i, e => by
    have e' : (zipP l k).length + 1 ≤ i := e
    obtain ⟨j, rfl⟩ : ∃ j, i = j + 1 := ⟨i - 1, by omega⟩
    rcases zipP_len (l := l) (k := k) (i := j) (by omega) with z | z
    · exact .inl (by rw [List.length_cons]; omega)
    · exact .inr (by rw [List.length_cons]; omega)
theorem walk_zipL {a b : Addr} {l k : List PV} {kp : Keep} (st : ∀ φ h H, Kp φ0 φ H0 H → Sim K φ h H → zbf kp h → ∃ vs ws, SqL K.K H a vs ∧ RVs K φ H l vs ∧ SqL K.K H b ws ∧ RVs K φ H k ws) : WalkOk K (Itz K.K a b) φ0 H0 (zipP l k) kp where
  go := fun i φ h H p x s q e => by
    obtain ⟨vs, ws, hs, r, hs2, r2⟩ := st φ h H x s q
    obtain ⟨pa, pb, ea, eb, rfl⟩ := zipP_get e
    obtain ⟨v, e1, rv⟩ := r.get ea
    obtain ⟨w, e2, rw'⟩ := r2.get eb
    refine ⟨⟨vs, ws, v, w, hs, hs2, e1, e2⟩, fun u H' y => ?_⟩
    obtain ⟨T, v', w', y1, nT, y2, y3, y4⟩ := y
    subst y1 y2
    have z1 := y3 vs hs
    have z2 := y4 ws hs2
    rw [e1] at z1
    rw [e2] at z2
    cases z1
    cases z2
    exact ⟨Ext.new nT, s.new nT, T, [v, w], rfl, .inl ⟨.inl upd_same, s.out nT⟩, (RVs.cons rv (RVs.cons rw' RVs.nil)).mono (Ext.new nT)⟩
  stop := fun i φ h H x s q e => by
    obtain ⟨vs, ws, hs, r, hs2, r2⟩ := st φ h H x s q
    refine ⟨vs, ws, hs, hs2, ?_⟩
    rw [← r.length, ← r2.length]
    exact zipP_len e
theorem walk_zipT {a b : Addr} {l k : List PV} {kp : Keep} (st : ∀ φ h H, Kp φ0 φ H0 H → Sim K φ h H → zbf kp h → ∃ vs ws, SqT K.K H a vs ∧ RVs K φ H l vs ∧ SqT K.K H b ws ∧ RVs K φ H k ws) : WalkOk K (RZ.ItzT K.K a b) φ0 H0 (zipP l k) kp where
  go := fun i φ h H p x s q e => by
    obtain ⟨vs, ws, hs, r, hs2, r2⟩ := st φ h H x s q
    obtain ⟨pa, pb, ea, eb, rfl⟩ := zipP_get e
    obtain ⟨v, e1, rv⟩ := r.get ea
    obtain ⟨w, e2, rw'⟩ := r2.get eb
    refine ⟨⟨vs, ws, v, w, hs, hs2, e1, e2⟩, fun u H' y => ?_⟩
    obtain ⟨T, v', w', y1, nT, y2, y3, y4⟩ := y
    subst y1 y2
    have z1 := y3 vs hs
    have z2 := y4 ws hs2
    rw [e1] at z1
    rw [e2] at z2
    cases z1
    cases z2
    exact ⟨Ext.new nT, s.new nT, T, [v, w], rfl, .inl ⟨.inl upd_same, s.out nT⟩, (RVs.cons rv (RVs.cons rw' RVs.nil)).mono (Ext.new nT)⟩
  stop := fun i φ h H x s q e => by
    obtain ⟨vs, ws, hs, r, hs2, r2⟩ := st φ h H x s q
    refine ⟨vs, ws, hs, hs2, ?_⟩
    rw [← r.length, ← r2.length]
    exact zipP_len e
end
theorem Sim.stays_at {K : ZZ} {φ : List Addr} {h : PH} {H : Hp} {n : Nat} {l : List PV} {kp : Keep} {a : Addr} (s : Sim K φ h H) (q : zbf kp h) (m : (n, l) ∈ kp) (e : φ[n]? = some a) : ∃ vs, SqL K.K H a vs ∧ RVs K φ H l vs := by
  obtain ⟨a', vs, e1, e2, r⟩ := s.lst (q (n, l) m)
  rw [e] at e1
  cases e1
  exact ⟨vs, SqL.of e2, r⟩
section
variable {X : Cx} {W : WX} {C : Calls} {a b c tg : Expr} {as : List Expr} {pos p : Pos} {ea eb ec : E} {ees : List E} {x : Str} {k : Nat}
theorem ji_seq (ha : JE X W C a ea) : JI X W C tg a .seq [ea] := pi_imp (pi_seqS ha) fun σ H Q ⟨ρ, φ, h, sm, re, o⟩ => by
  have o' : Out (zOf X) X.mg (relW (zOf X)) φ H (atS W σ) Q ((evG C ea false ρ h).bind fun x h1 => ofO (walkF .seq [x] h1) h1) := by
    have e : evI C .seq [ea] ρ h = (evG C ea false ρ h).bind fun x h1 => ofO (walkF .seq [x] h1) h1 := by
      show (((evG C ea false ρ h).bind fun x h1 => ((R.ok [] h1 : R (List PV)).bind fun l h2 => R.ok (x :: l) h2)).bind fun l h1 => ofO (walkF .seq l h1) h1) = _
      cases evG C ea false ρ h <;> rfl
    rw [← e]
    exact o
  refine ⟨ρ, φ, h, sm, re, (Out.bind (rel2 := RV (zOf X)) o').imp fun x H1 ⟨φ1, va, h1, x1, s1, r1, o1⟩ => ?_⟩
  obtain ⟨w, e, q⟩ := o1.some
  have e' : walkSeq [va] h1 = some w := e
  cases va with
  | cl l =>
    cases e'
    obtain ⟨ad, vs, hx, hq, r⟩ := r1
    exact .inl ⟨ad, hx, .inl ⟨⟨vs, hq.sq⟩, q φ1 H1 _ (Ext.refl _ _) s1 (walk_list fun φ h H x s _ => ⟨vs, (hq.monoK x).sq, r.monoK x⟩)⟩⟩
  | ref n =>
    simp only [walkSeq] at e'
    split at e'
    · rename_i l e3
      cases e'
      obtain ⟨ad, hx, e4⟩ := r1
      obtain ⟨a', vs, e5, e6, r⟩ := s1.lst e3
      rw [e4] at e5
      cases e5
      exact .inl ⟨ad, hx, .inl ⟨⟨vs, SqL.of e6⟩, q φ1 H1 _ (Ext.refl _ _) s1 (walk_list fun φ h H x s st => s.stays_at st List.mem_cons_self (x.pl _ _ e4))⟩⟩
    · cases e'
  | str z =>
    cases e'
    exact .inr ⟨z, r1, q φ1 H1 _ (Ext.refl _ _) s1 (walk_str z)⟩
  | tup l =>
    cases e'
    obtain ⟨ad, vs, hx, hq, r⟩ := r1
    exact .inl ⟨ad, hx, .inr ⟨⟨vs, hq.sq⟩, q φ1 H1 _ (Ext.refl _ _) s1 (walk_tup fun φ h H x s _ => ⟨vs, (hq.monoK x).sq, r.monoK x⟩)⟩⟩
  | _ => cases e'
theorem ji_range (hm : X.mg "range" = none) (ha : JA X W C [a] [ea]) (hg : Gl X "range" := by rfl) (hs : starEach [a] X.env = [(false, eval a X.env)] := by rfl) : JI X W C tg (.Call (.Name "range" p) [a] [] pos) .range [ea] :=
  pi_imp (pi_range1 hg hm ha hs) fun σ H Q ⟨ρ, φ, h, sm, re, o⟩ => by
    refine ⟨ρ, φ, h, sm, re, (Out.bind (rel2 := RVs (zOf X)) (show Out (zOf X) X.mg (relW (zOf X)) φ H (atS W σ) Q ((evGs C [ea] ρ h).bind _) from o)).imp fun vs H1 ⟨φ1, l, h1, x1, s1, r1, o1⟩ => ?_⟩
    obtain ⟨w, e, q⟩ := o1.some
    change walkRange l h1 = some w at e
    unfold walkRange at e
    split at e
    · rename_i n
      split at e
      · rename_i hn
        cases e
        obtain ⟨v, e1, rv⟩ := r1.one
        exact ⟨n, by rw [e1, show v = .int n from rv], hn.2, hn.1, q φ1 H1 _ (Ext.refl _ _) s1 (walk_range n)⟩
      · cases e
    · cases e
theorem ji_zip {elts : List Expr} {kk : Nat} {tpos : Pos} (hm : X.mg "zip" = none) (ha : JA X W C [a, b] [ea, eb]) (hg : Gl X "zip" := by rfl) (hs : starEach [a, b] X.env = (false, eval a X.env) :: starEach [b] X.env := by rfl) (hpl : (backTo pos (starEach [b] X.env)).any (·.1) = false := by rfl) :
    JI X W C (.Tuple elts kk tpos) (.Call (.Name "zip" p) [a, b] [] pos) .zip [ea, eb] :=
  pi_imp (RZ.pi_zipA hg hm ha hs hpl) fun σ H Q ⟨ρ, φ, h, sm, re, o⟩ => by
    refine ⟨ρ, φ, h, sm, re, (Out.bind (rel2 := RVs (zOf X)) (show Out (zOf X) X.mg (relW (zOf X)) φ H (atS W σ) Q ((evGs C [ea, eb] ρ h).bind _) from o)).imp fun vs H1 ⟨φ1, l, h1, x1, s1, r1, o1⟩ => ?_⟩
    obtain ⟨w, e, q⟩ := o1.some
    change walkZip l h1 = some w at e
    unfold walkZip at e
    split at e
    · rename_i l1 l2
      cases e
      obtain ⟨v, w, e1, rv, rw'⟩ := r1.two
      obtain ⟨ad, vs1, hx, hq, r⟩ := rv
      obtain ⟨bd, vs2, hx2, hq2, r2⟩ := rw'
      exact ⟨ad, bd, vs1, vs2, by rw [e1, hx, hx2], .inr ⟨hq.sq, hq2.sq, q φ1 H1 _ (Ext.refl _ _) s1 (walk_zipT fun φ h H x s _ => ⟨vs1, vs2, (hq.monoK x).sq, r.monoK x, (hq2.monoK x).sq, r2.monoK x⟩)⟩⟩
    · rename_i m n
      split at e
      · rename_i l1 l2 e3 e4
        cases e
        obtain ⟨v, w, e1, rv, rw'⟩ := r1.two
        obtain ⟨ad, hx, e5⟩ := rv
        obtain ⟨bd, hx2, e6⟩ := rw'
        obtain ⟨a', vs1, e7, e8, r⟩ := s1.lst e3
        obtain ⟨b', vs2, e9, e10, r2⟩ := s1.lst e4
        rw [e5] at e7
        cases e7
        rw [e6] at e9
        cases e9
        refine ⟨ad, bd, vs1, vs2, by rw [e1, hx, hx2], .inl ⟨SqL.of e8, SqL.of e10, q φ1 H1 _ (Ext.refl _ _) s1 (walk_zipL fun φ h H x s st => ?_)⟩⟩
        obtain ⟨ws1, g1, g2⟩ := s.stays_at st List.mem_cons_self (x.pl _ _ e5)
        obtain ⟨ws2, g3, g4⟩ := s.stays_at st (List.mem_cons_of_mem _ List.mem_cons_self) (x.pl _ _ e6)
        exact ⟨ws1, ws2, g1, g2, g3, g4⟩
      · cases e
    · cases e
end
def gNs : List Nat → TGs
  | [] => gNil
  | i :: is => gCons (gName i) (gNs is)
/-- (a, .., *b) = a tuple: the rest's list is not tracked -/
def gStar (K : PySem.W.Frag) (n : Nat) (t : TGs) : TG := fun v σ H Q => ∃ a xs, v = .ref a ∧ SqT K H a xs ∧ n ≤ xs.length + 1 ∧ 0 < n ∧ xs.length ≤ 1000 ∧ ∀ D, t (xs.take (n - 1) ++ [.ref D]) σ H Q
def gT (K : PySem.W.Frag) (is : List Nat) (one : TgK) : TG := match one, is with
  | .one, [i] => gName i
  | .one, _ => fun _ _ _ _ => False
  | .tup, is => gTup K is.length (gNs is)
  | .star, is => gStar K is.length (gNs is)
  | .nest, [] => fun _ _ _ _ => False
  | .nest, i :: is => gTup K 2 (gCons (gName i) (gCons (gTup K is.length (gNs is)) gNil))
theorem gNs_post : ∀ {is : List Nat} {vs : List V} {σ : St} {H : Hp} {Q : St → Hp → Prop}, gNs is vs σ H Q → gNs is vs σ H (fun σ' H' => ([] : List V) = [] ∧ Q σ' H')
  | [], _, _, _, _, h => ⟨h.1, rfl, h.2⟩
  | _ :: is, _, _, _, _, ⟨v, r, e, h⟩ => ⟨v, r, e, gNs_post (is := is) h⟩
def setV : List Nat → List V → St → St
  | i :: is, v :: vs, σ => setV is vs (σ.set i (some v))
  | _, _, σ => σ
theorem gNs_ok {H : Hp} {Q : St → Hp → Prop} : ∀ {is : List Nat} {vs : List V} {σ : St}, is.length = vs.length → Q (setV is vs σ) H → gNs is vs σ H Q
  | [], [], σ, _, q => ⟨rfl, q⟩
  | i :: is, v :: vs, σ, e, q => ⟨v, vs, rfl, gNs_ok (is := is) (by simpa using e) q⟩
  | [], _ :: _, _, e, _ => by simp at e
  | _ :: _, [], _, e, _ => by simp at e
theorem setAll_ok {K : ZZ} {φ : List Addr} {H : Hp} : ∀ {is : List Nat} {l : List PV} {vs : List V} {ρ ρ' : Env} {σ : St}, RE K φ H ρ σ → RVs K φ H l vs → setAll ρ is l = some ρ' → RE K φ H ρ' (setV is vs σ) ∧ is.length = vs.length
  | [], [], vs, ρ, ρ', σ, h, r, e => by
    cases e
    have : vs = [] := r
    subst this
    exact ⟨h, rfl⟩
  | i :: is, p :: l, vs, ρ, ρ', σ, h, r, e => by
    obtain ⟨v, t, e1, q, s⟩ := r
    subst e1
    obtain ⟨h1, h3⟩ := setAll_ok (is := is) (h.set i q) s e
    exact ⟨h1, by rw [List.length_cons, List.length_cons, h3]⟩
  | [], _ :: _, _, _, _, _, _, _, e => by cases e
  | _ :: _, [], _, _, _, _, _, _, e => by cases e
/-- which names were stored -/
def wipesOk (is : List Nat) (σ σ' : St) : Prop := ∀ vs : List Nat, (∀ i ∈ is, i ∈ vs) → L2.wipe σ' vs = L2.wipe σ vs
theorem wipe_set {σ : St} {i : Nat} {v : Option V} : ∀ {vs : List Nat}, i ∈ vs → L2.wipe (σ.set i v) vs = L2.wipe σ vs
  | [], h => by simp at h
  | j :: vs, h => by
    show (L2.wipe (σ.set i v) vs).set j none = (L2.wipe σ vs).set j none
    by_cases e : i ∈ vs
    · rw [wipe_set e]
    · have ij : i = j := by
        rcases List.mem_cons.mp h with z | z
        · exact z
        · exact absurd z e
      subst ij
      rw [wipe_out' e]
      rw [List.set_set]
where
  wipe_out' {σ : St} {i : Nat} {v : Option V} : ∀ {vs : List Nat}, i ∉ vs → L2.wipe (σ.set i v) vs = (L2.wipe σ vs).set i v
    | [], _ => rfl
    | j :: vs, h => by
      show (L2.wipe (σ.set i v) vs).set j none = ((L2.wipe σ vs).set j none).set i v
      rw [wipe_out' (fun z => h (List.mem_cons_of_mem _ z)), List.set_comm _ _ (fun z => h (by rw [z]; exact List.mem_cons_self))]
theorem wipe_setV {σ : St} {ws : List Nat} : ∀ {is : List Nat} {vs : List V} {σ : St}, (∀ i ∈ is, i ∈ ws) → L2.wipe (setV is vs σ) ws = L2.wipe σ ws
  | [], _, σ, _ => rfl
  | _ :: _, [], σ, _ => rfl
  | i :: is, v :: vs, σ, h => by
    show L2.wipe (setV is vs (σ.set i (some v))) ws = _
    rw [wipe_setV (σ := σ) (is := is) (fun j hj => h j (List.mem_cons_of_mem _ hj)), wipe_set (h i List.mem_cons_self)]
theorem wipe_wipe {σ : St} : ∀ {vs : List Nat}, ∀ ws : List Nat, (∀ i ∈ vs, i ∈ ws) → L2.wipe (L2.wipe σ vs) ws = L2.wipe σ ws
  | [], ws, _ => rfl
  | j :: vs, ws, h => by
    show L2.wipe ((L2.wipe σ vs).set j none) ws = _
    rw [wipe_set (h j List.mem_cons_self)]
    exact wipe_wipe ws fun i hi => h i (List.mem_cons_of_mem _ hi)
theorem gT_ok {K : ZZ} {φ : List Addr} {H : Hp} {is : List Nat} {one : TgK} {p : PV} {v : V} {ρ ρ' : Env} {σ : St} {Q : St → Hp → Prop} (re : RE K φ H ρ σ) (r : RV K φ H p v) (e : zbp ρ is one p = some ρ')
    (q : ∀ σ', RE K φ H ρ' σ' → wipesOk is σ σ' → Q σ' H) : gT K.K is one v σ H Q := by
  unfold zbp at e
  split at e
  · rename_i i
    cases e
    exact q _ (re.set i r) fun vs h => wipe_set (h i List.mem_cons_self)
  · rename_i l
    obtain ⟨ad, vs, hx, hq, r'⟩ := r
    obtain ⟨h1, h2⟩ := setAll_ok re r' e
    exact ⟨ad, vs, hx, hq.sq, h2.symm, gNs_ok h2 (q _ h1 fun ws h => wipe_setV (σ := σ) h)⟩
  · rename_i i is a l
    obtain ⟨ad, vs, hx, hq, r'⟩ := r
    obtain ⟨v1, v2, rfl, q1, q2⟩ := r'.two
    obtain ⟨ad2, vs2, hx2, hq2, r2⟩ := q2
    obtain ⟨h1, h2⟩ := setAll_ok (re.set i q1) r2 e
    refine ⟨ad, _, hx, hq.sq, rfl, v1, _, rfl, v2, [], rfl, ad2, vs2, hx2, hq2.sq, h2.symm, ?_⟩
    refine gNs_post (gNs_ok h2 (q _ h1 fun ws h => ?_))
    rw [wipe_setV (σ := σ) (fun j hj => h j (List.mem_cons_of_mem _ hj)), wipe_set (h i List.mem_cons_self)]
  · rename_i l
    split at e
    · rename_i hn
      split at e
      · rename_i j hj
        obtain ⟨ρ1, e1, e2⟩ := Option.map_eq_some_iff.mp e
        subst e2
        obtain ⟨ad, vs, hx, hq, r'⟩ := r
        obtain ⟨h1, h2⟩ := setAll_ok re (r'.take (is.length - 1)) e1
        have eis : is = is.dropLast ++ [j] := by
          obtain ⟨ne, el⟩ := List.getLast?_eq_some_iff.mp hj
          rw [el]
          simp
        have lis : is.length = is.dropLast.length + 1 := by
          have := congrArg List.length eis
          rw [List.length_append] at this
          simpa using this
        have lv := r'.length
        refine ⟨ad, vs, hx, hq.sq, by omega, by omega, by omega, fun D => ?_⟩
        have key : ∀ {as : List Nat} {ws : List V} {σ : St}, as.length = ws.length → setV (as ++ [j]) (ws ++ [.ref D]) σ = (setV as ws σ).set j (some (.ref D)) := by
          intro as
          induction as with
          | nil =>
            intro ws σ e
            match ws, e with
            | [], _ => rfl
          | cons a as ih =>
            intro ws σ e
            match ws, e with
            | w :: ws, e => exact ih (by simpa using e)
        have gg : gNs (is.dropLast ++ [j]) (vs.take (is.length - 1) ++ [.ref D]) σ H Q := by
          refine gNs_ok (by rw [List.length_append, List.length_append, h2]; rfl) ?_
          rw [key h2]
          refine q _ ?_ fun ws hw => ?_
          · exact RE.unsetA j h1
          · rw [wipe_set (hw j (by rw [eis]; simp)), wipe_setV (σ := σ) (fun i hi => hw i (by rw [eis]; exact List.mem_append_left _ hi))]
        rw [← eis] at gg
        exact gg
      · cases e
    · cases e
  · cases e
end Sb
namespace Sb
open PySem PySem.Spec L2
/-- nothing is let out -/
abbrev W0 : WX := fun _ _ _ _ => False
theorem Out.calm_bind {K : ZZ} {mg : Str → Option Value} {α β γ δ : Type} {rel : List Addr → Hp → α → β → Prop} {rel2 : List Addr → Hp → γ → δ → Prop} {φ0 φ : List Addr} {H0 H : Hp} {W W' : XK} {Q : β → Hp → Prop} {m : R γ} {f : γ → PH → R α} (h : Out K mg rel φ0 H0 W Q (m.calm.bind f)) :
    Out K mg rel2 φ H W' (fun b H' => ∃ φ' a h1, Ext φ φ' H H' ∧ Sim K φ' h1 H' ∧ rel2 φ' H' a b ∧ Out K mg rel φ0 H0 W Q (f a h1)) m := by
  cases m with
  | ok a h1 => exact fun φ' H' b x s r => ⟨φ', a, h1, x, s, r, h⟩
  | ex x h1 => exact (show False from h).elim
  | no => exact h
def tCond (K : ZZ) (mg : Str → Option Value) (C : Calls) : Option E → TT
  | none => tYes
  | some e => tT K mg W0 C e
theorem cond_ok {K : ZZ} {mg : Str → Option Value} {C : Calls} {cond : Option E} {σ : St} {H : Hp} {ρ : Env} {φ : List Addr} {h : PH} {Q : Bool → Hp → Prop} (sm : Sim K φ h H) (re : RE K φ H ρ σ) (o : Out K mg RI φ H (fun _ _ _ => False) Q (evGc C cond ρ h)) : tCond K mg C cond σ H Q := by
  cases cond with
  | none => exact (show Out K mg RI φ H (fun _ _ _ => False) Q (.ok true h) from o).at sm rfl
  | some e => exact ⟨ρ, φ, h, sm, re, o⟩
theorem R.bind_bind {α β γ : Type} (m : R α) (f : α → PH → R β) (g : β → PH → R γ) : (m.bind f).bind g = m.bind fun a h => (f a h).bind g := by
  cases m <;> rfl
/-- the loop of a comprehension, as the layer reads it -/
theorem comp_red {K : ZZ} {mg : Str → Option Value} {W : WX} {C : Calls} {elt : E} {is : List Nat} {one : TgK} {k : ITK} {its : List E} {cond : Option E} {own : List Nat} (his : ∀ i ∈ is, i ∈ own) {σ : St} {H : Hp} {Q : VK} (t : tE K mg W C (.comp elt is one k its cond own) σ H Q) :
    tLc (tI K mg W C k its) (gT K.K is one) (tCond K mg C cond) (tE K mg W0 C elt) own σ H Q := by
  obtain ⟨ρ, φ, h, sm, re, o⟩ := t
  have o' : Out K mg (RV K) φ H (atS W σ) Q ((evI C k its ρ h).bind fun w h1 => (zav w.2 (fun x => zbp (wipeP ρ own) is one x) (fun ρ1 h2 => (evGc C cond ρ1 h2).calm) (fun ρ1 h2 => (evG C elt false ρ1 h2).calm) w.1 [] h1).bind fun l h2 => alloc l h2) := by
    have e : evG C (.comp elt is one k its cond own) false ρ h = (evI C k its ρ h).bind fun w h1 => (zav w.2 (fun x => zbp (wipeP ρ own) is one x) (fun ρ1 h2 => (evGc C cond ρ1 h2).calm) (fun ρ1 h2 => (evG C elt false ρ1 h2).calm) w.1 [] h1).bind fun l h2 => alloc l h2 := by
      unfold evI
      rw [R.bind_bind]
      show ((evGs C its ρ h).bind _) = _
      congr 1
      funext l h1
      cases walkF k l h1 with
      | none => rfl
      | some w => rfl
    rw [← e]
    exact o
  refine ⟨ρ, φ, h, sm, re, (Out.bind (rel2 := relW K) o').imp fun J H1 ⟨φ1, w, h1, x1, s1, wk, o1⟩ => ?_⟩
  obtain ⟨items, kp⟩ := w
  intro D hD
  have wk : WalkOk K J φ1 H1 items kp := wk
  have re1 := (re.mono x1).wipe own
  refine ⟨fun i m H2 => ∃ φ2 h2 acc ws, m = (items.drop i).length ∧ Ext φ1 φ2 H1 H2 ∧ Sim K φ2 h2 H2 ∧ D ∉ φ2 ∧ H2 D = some (.lst ws) ∧ RVs K φ2 H2 acc ws ∧
    Out K mg (RV K) φ1 H1 (atS W σ) Q ((zav kp (fun x => zbp (wipeP ρ own) is one x) (fun ρ1 h2 => (evGc C cond ρ1 h2).calm) (fun ρ1 h2 => (evG C elt false ρ1 h2).calm) (items.drop i) acc h2).bind fun l h2 => alloc l h2),
    ⟨items.length, φ1, h1, [], [], rfl, Ext.new hD, s1.new hD, s1.out hD, upd_same, rfl, o1⟩, ?_⟩
  rintro i m H2 ⟨φ2, h2, acc, ws, hm, x2, s2, nD, hDl, ra, o2⟩
  cases e : items.drop i with
  | nil =>
    rw [e] at o2
    unfold zav at o2
    split at o2
    · rename_i hs
      refine .inl ⟨wk.stop i φ2 h2 H2 x2.kp s2 hs (List.drop_eq_nil_iff.mp e), ?_⟩
      have o3 : Out K mg (RV K) φ1 H1 (atS W σ) Q (alloc acc h2) := o2
      unfold alloc at o3
      split at o3
      · refine o3 (φ2 ++ [D]) H2 (.ref D) (x2.adopt hD) (s2.adopt hDl nD ra) ⟨D, rfl, ?_⟩
        rw [← s2.len, List.getElem?_append_right (Nat.le_refl _), Nat.sub_self]
        rfl
      · exact o3.elim
    · exact (show False from o2).elim
  | cons p rest =>
    have ei : items[i]? = some p := by
      have := congrArg (·[0]?) e
      simpa using this
    have er : items.drop (i + 1) = rest := by
      rw [← List.drop_drop, e]
      rfl
    rw [e] at o2
    unfold zav at o2
    split at o2
    · rename_i hs
      obtain ⟨hgo, hy⟩ := wk.go i φ2 h2 H2 p x2.kp s2 hs ei
      refine .inr ⟨hgo, fun H3 => ∃ φ2 h2 acc ws, Ext φ1 φ2 H1 H3 ∧ Sim K φ2 h2 H3 ∧ D ∉ φ2 ∧ H3 D = some (.lst ws) ∧ RVs K φ2 H3 acc ws ∧
        Out K mg (RV K) φ1 H1 (atS W σ) Q ((zav kp (fun x => zbp (wipeP ρ own) is one x) (fun ρ1 h2 => (evGc C cond ρ1 h2).calm) (fun ρ1 h2 => (evG C elt false ρ1 h2).calm) rest acc h2).bind fun l h2 => alloc l h2), fun H3 z => ?_, fun v H3 y => ?_⟩
      · obtain ⟨φ3, h3, acc3, ws3, z1, z2, z3, z4, z5, z6⟩ := z
        refine ⟨rest.length, by rw [hm, e, List.length_cons]; omega, φ3, h3, acc3, ws3, by rw [er], z1, z2, z3, z4, z5, ?_⟩
        rw [er]
        exact z6
      · obtain ⟨ex, sx, rx⟩ := hy v H3 y
        cases eb : zbp (wipeP ρ own) is one p with
        | none => simp only [eb] at o2; exact (show False from o2).elim
        | some ρ1 =>
          simp only [eb] at o2
          have xx := x2.trans ex
          have hD3 : H3 D = some (.lst ws) := ex.keep D _ hDl nD (fun ps z => by cases z)
          refine gT_ok (re1.mono xx) rx eb fun σ2 re2 wp => ⟨by rw [wp own his, wipe_wipe own fun _ z => z], ?_⟩
          have o3 := o2
          rw [R.bind_bind] at o3
          refine cond_ok sx re2 ((Out.calm_bind (rel2 := RI) (W' := fun _ _ _ => False) o3).imp fun b H4 ⟨φ4, b1, h4, x4, s4, r4, o4⟩ => ?_)
          have r4' : b1 = b := r4
          subst r4'
          have hD4 : H4 D = some (.lst ws) := x4.keep D _ hD3 nD (fun ps z => by cases z)
          have nD4 : D ∉ φ4 := fun z => by
            obtain ⟨ps, e⟩ := x4.fresh D z nD _ hD3
            cases e
          cases b1 with
          | false =>
            simp only [Bool.false_eq_true, if_false] at o4 ⊢
            exact ⟨φ4, h4, acc, ws, xx.trans x4, s4, nD4, hD4, (ra.mono ex).mono x4, o4⟩
          | true =>
            simp only [if_true] at o4 ⊢
            rw [R.bind_bind] at o4
            refine ⟨ρ1, φ4, h4, s4, re2.mono x4, (Out.calm_bind (rel2 := RV K) (W' := fun _ _ _ => False) o4).imp fun y H5 ⟨φ5, v5, h5, x5, s5, r5, o5⟩ => ?_⟩
            have hD5 : H5 D = some (.lst ws) := x5.keep D _ hD4 nD4 (fun ps z => by cases z)
            have nD5 : D ∉ φ5 := fun z => by
              obtain ⟨ps, e⟩ := x5.fresh D z nD4 _ hD4
              cases e
            have ra5 := ((ra.mono ex).mono x4).mono x5
            split at o5
            · rename_i hl
              refine ⟨ws, hD5, by rw [← ra.length]; exact line_lt hl, φ5, h5, acc ++ [v5], ws ++ [y], ((xx.trans x4).trans x5).aside hD, s5.aside hD5 nD5, nD5, upd_same, ?_, o5⟩
              exact (ra5.append (RVs.cons r5 RVs.nil)).monoK (Kp.aside hD5)
            · exact (show False from o5).elim
    · exact (show False from o2).elim
section
variable {X : Cx} {W : WX} {C : Calls}
theorem je_comp {elt tg iter : Expr} {ifs : List Expr} {scope : Scope} {own : List (Str × Nat)} {pos : Pos} {ee : E} {is : List Nat} {one : TgK} {k : ITK} {its : List E} {cond : Option E} (hc : X.calm = true) (hN : X.N.Nodup) (hi : JI X W C tg iter k its) (ok : BlkOk X.N X.env.scope scope own)
    (hg : ∀ (s : Shared) (H : Hp) (C : Addr) (cl : List (Str × Addr)) (fp : List Addr), PG (X.blk s H scope (compEnvC scope cl C X.env) fp) tg (gT X.K is one)) (ht : ∀ (s : Shared) (H : Hp) (C' : Addr) (cl : List (Str × Addr)) (fp : List Addr), PTs (X.blk s H scope (compEnvC scope cl C' X.env) fp) ifs (tCond (zOf (X.blk s H scope (compEnvC scope cl C' X.env) fp)) X.mg C cond))
    (he : ∀ (s : Shared) (H : Hp) (C' : Addr) (cl : List (Str × Addr)) (fp : List Addr), JE (X.blk s H scope (compEnvC scope cl C' X.env) fp) W0 C elt ee) (his : ∀ i ∈ is, i ∈ own.map (·.2) := by decide) (hs : ∀ x, foldedSetIterable iter X.env x = pure x := by intro _; rfl) :
    JE X W C (.ListComp elt [⟨tg, iter, ifs, 0⟩] scope pos) (.comp ee is one k its cond (own.map (·.2))) := by
  have hz : zOf X = ⟨X.K, [], X.prog, X.w⟩ := z_calm hc
  have hzb : ∀ (s : Shared) (H : Hp) (cenv : PySem.Env) (fp : List Addr), zOf (X.blk s H scope cenv fp) = ⟨X.K, [], X.prog, X.w⟩ := fun s H cenv fp => z_calm (X := X.blk s H scope cenv fp) hc
  have ht' : ∀ (s : Shared) (H : Hp) (C' : Addr) (cl : List (Str × Addr)) (fp : List Addr), PTs (X.blk s H scope (compEnvC scope cl C' X.env) fp) ifs (tCond ⟨X.K, [], X.prog, X.w⟩ X.mg C cond) := fun s H C' cl fp => by
    have z := ht s H C' cl fp
    rw [hzb] at z
    exact z
  have he' : ∀ (s : Shared) (H : Hp) (C' : Addr) (cl : List (Str × Addr)) (fp : List Addr), PE (X.blk s H scope (compEnvC scope cl C' X.env) fp) elt (tE ⟨X.K, [], X.prog, X.w⟩ X.mg W0 C ee) := fun s H C' cl fp => by
    have z := he s H C' cl fp
    unfold JE at z
    rw [hzb] at z
    exact z
  exact za5 (pe_lc (te := tE ⟨X.K, [], X.prog, X.w⟩ X.mg W0 C ee) hc hN hi ok hg ht' he' hs) fun σ H Q t => by
    have t' := comp_red his t
    rw [← hz]
    exact t'
end
def OutS (K : ZZ) (mg : Str → Option Value) (φ : List Addr) (H : Hp) (W : WX) (D : Ends) : RS → Prop
  | .nx ρ h => ∀ φ' H' σ', Ext φ φ' H H' → Sim K φ' h H' → RE K φ' H' ρ σ' → D.nx σ' H'
  | .rt v h => ∀ φ' H' x, Ext φ φ' H H' → Sim K φ' h H' → RV K φ' H' v x → D.rt x H'
  | .bk ρ h => ∀ φ' H' σ', Ext φ φ' H H' → Sim K φ' h H' → RE K φ' H' ρ σ' → D.bk σ' H'
  | .ct ρ h => ∀ φ' H' σ', Ext φ φ' H H' → Sim K φ' h H' → RE K φ' H' ρ σ' → D.ct σ' H'
  | .ex x ρ h => ∀ φ' H' σ' cls d, Ext φ φ' H H' → Sim K φ' h H' → RE K φ' H' ρ σ' → RX K mg φ' H' x cls d → W cls d σ' H'
  | .no => False
section
variable {K : ZZ} {mg : Str → Option Value} {φ φ' : List Addr} {H H' : Hp} {W : WX} {D : Ends}
theorem OutS.mono (x : Ext φ φ' H H') : ∀ {m : RS}, OutS K mg φ H W D m → OutS K mg φ' H' W D m
  | .nx _ _, h => fun φ2 H2 b y s r => h φ2 H2 b (x.trans y) s r
  | .rt _ _, h => fun φ2 H2 b y s r => h φ2 H2 b (x.trans y) s r
  | .bk _ _, h => fun φ2 H2 b y s r => h φ2 H2 b (x.trans y) s r
  | .ct _ _, h => fun φ2 H2 b y s r => h φ2 H2 b (x.trans y) s r
  | .ex _ _ _, h => fun φ2 H2 b c d y s r => h φ2 H2 b c d (x.trans y) s r
  | .no, h => h
/-- an expression, then the rest of the statement -/
theorem OutS.st {α β : Type} {rel : List Addr → Hp → α → β → Prop} {m : R α} {f : α → PH → RS} {ρ : Env} {σ : St} (re : RE K φ H ρ σ) (h : OutS K mg φ H W D (m.st ρ f)) :
    Out K mg rel φ H (atS W σ) (fun b H' => ∃ φ' a h1, Ext φ φ' H H' ∧ Sim K φ' h1 H' ∧ rel φ' H' a b ∧ OutS K mg φ' H' W D (f a h1)) m := by
  cases m with
  | ok a h1 => exact fun φ' H' b x s r => ⟨φ', a, h1, x, s, r, h.mono x⟩
  | ex y h1 => exact fun φ' H' c d x s r => h φ' H' σ c d x s (re.mono x) r
  | no => exact h
theorem OutS.atN {ρ : Env} {h : PH} {σ : St} (o : OutS K mg φ H W D (.nx ρ h)) (s : Sim K φ h H) (re : RE K φ H ρ σ) : D.nx σ H := o φ H σ (Ext.refl _ _) s re
end
def tS (K : ZZ) (mg : Str → Option Value) (W : WX) (C : Calls) (s : S) : TS := fun D σ H => ∃ ρ φ h, Sim K φ h H ∧ RE K φ H ρ σ ∧ OutS K mg φ H W D (exS C s ρ h)
def tSs (K : ZZ) (mg : Str → Option Value) (W : WX) (C : Calls) (s : List S) : TS := fun D σ H => ∃ ρ φ h, Sim K φ h H ∧ RE K φ H ρ σ ∧ OutS K mg φ H W D (exSs C s ρ h)
abbrev JS (X : Cx) (W : WX) (C : Calls) (a : Stmt) (s : S) : Prop := PS X a (tS (zOf X) X.mg W C s)
abbrev JSs (X : Cx) (W : WX) (C : Calls) (a : List Stmt) (s : List S) : Prop := PSs X a (tSs (zOf X) X.mg W C s)
theorem ps_imp {X : Cx} {a : Stmt} {t t' : TS} (p : PS X a t) (f : ∀ D σ H, t' D σ H → t D σ H) : PS X a t' := ⟨fun pins s σ H D I h => p.run pins s σ H D I (f D σ H h)⟩
theorem pss_imp {X : Cx} {a : List Stmt} {t t' : TS} (p : PSs X a t) (f : ∀ D σ H, t' D σ H → t D σ H) : PSs X a t' := ⟨fun pins s σ H D I h => p.run pins s σ H D I (f D σ H h)⟩
section
variable {X : Cx} {W : WX} {C : Calls} {a b c : Expr} {st : Stmt} {sts rest : List Stmt} {pos : Pos} {ea eb ec : E} {s : S} {ss ss2 : List S}
theorem zag : JSs X W C [] [] := pss_imp pss_nil fun D σ H ⟨ρ, φ, h, sm, re, o⟩ => (show OutS (zOf X) X.mg φ H W D (.nx ρ h) from o).atN sm re
theorem zac (h1 : JS X W C st s) (h2 : JSs X W C rest ss) : JSs X W C (st :: rest) (s :: ss) := pss_imp (pss_cons h1 h2) fun D σ H ⟨ρ, φ, h, sm, re, o⟩ => by
  have o' : OutS (zOf X) X.mg φ H W D ((exS C s ρ h).seq fun ρ1 h1 => exSs C ss ρ1 h1) := o
  refine ⟨ρ, φ, h, sm, re, ?_⟩
  cases e : exS C s ρ h with
  | nx ρ1 h1 =>
    rw [e] at o'
    exact fun φ' H' σ' x s r => ⟨ρ1, φ', h1, s, r, OutS.mono x o'⟩
  | rt v h1 => rw [e] at o'; exact o'
  | bk ρ1 h1 => rw [e] at o'; exact o'
  | ct ρ1 h1 => rw [e] at o'; exact o'
  | ex x ρ1 h1 => rw [e] at o'; exact o'
  | no => rw [e] at o'; exact o'
theorem zau (ha : JE X W C a ea) : JS X W C (.Return (some a) pos) (.ret ea) := ps_imp (ps_ret ha) fun D σ H ⟨ρ, φ, h, sm, re, o⟩ =>
  ⟨ρ, φ, h, sm, re, (OutS.st (rel := RV (zOf X)) re (show OutS (zOf X) X.mg φ H W D ((evE C ea ρ h).st ρ fun v h1 => .rt v h1) from o)).imp fun x H1 ⟨φ1, v, h1, x1, s1, r1, o1⟩ => o1 φ1 H1 x (Ext.refl _ _) s1 r1⟩
theorem js_expr (ha : JE X W C a ea) (hs : swapsWith a none pos.line X.env = pure false := by rfl) : JS X W C (.Expr a pos) (.ex ea) := ps_imp (ps_expr ha hs) fun D σ H ⟨ρ, φ, h, sm, re, o⟩ =>
  ⟨ρ, φ, h, sm, re, (OutS.st (rel := RV (zOf X)) re (show OutS (zOf X) X.mg φ H W D ((evE C ea ρ h).st ρ fun v h1 => .nx ρ h1) from o)).imp fun x H1 ⟨φ1, v, h1, x1, s1, r1, o1⟩ => o1.atN s1 (re.mono x1)⟩
theorem js_if (hc : JT X W C c ec) (ha : JSs X W C sts ss) (hb : JSs X W C rest ss2) : JS X W C (.If c sts rest pos) (.ifs ec ss ss2) := ps_imp (ps_if hc ha hb) fun D σ H ⟨ρ, φ, h, sm, re, o⟩ =>
  ⟨ρ, φ, h, sm, re, (OutS.st (rel := RI) re (show OutS (zOf X) X.mg φ H W D ((evT C ec ρ h).st ρ fun k h1 => if k then exSs C ss ρ h1 else exSs C ss2 ρ h1) from o)).imp fun k H1 ⟨φ1, k1, h1, x1, s1, r1, o1⟩ => by
    have r1' : k1 = k := r1
    subst r1'
    cases k1 with
    | true => exact ⟨ρ, φ1, h1, s1, re.mono x1, o1⟩
    | false => exact ⟨ρ, φ1, h1, s1, re.mono x1, o1⟩⟩
/-- name = e -/
theorem asg_red {te : TE} {i : Nat} {D : Ends} {σ : St} {H : Hp} (hte : ∀ Q, tE (zOf X) X.mg W C ea σ H Q → te σ H Q) (t : tS (zOf X) X.mg W C (.asg (.nm i) ea) D σ H) : tAsg te (gName i) D σ H := by
  obtain ⟨ρ, φ, h, sm, re, o⟩ := t
  exact hte _ ⟨ρ, φ, h, sm, re, (OutS.st (rel := RV (zOf X)) re (show OutS (zOf X) X.mg φ H W D ((evE C ea ρ h).st ρ fun v h1 => .nx (ρ.set i (some v)) h1) from o)).imp fun x H1 ⟨φ1, v, h1, x1, s1, r1, o1⟩ => o1.atN s1 ((re.mono x1).set i r1)⟩
theorem zaz {i : Nat} {x : Str} {pos' : Pos} (hN : X.N.Nodup) (ha : JE X W C a ea) (hi : X.N[i]? = some x := by rfl) (hx : Loc X.env.scope x := by first | exact .inl rfl | exact .inr rfl) (hs : swapsWith a (some (.Name x pos')) pos.line X.env = pure false := by rfl) (hf : X.fn x = true ∨ X.env.scope.names.lookup x = some .local := by first | exact .inl rfl | exact .inr rfl | assumption) :
    JS X W C (.Assign [.Name x pos'] a pos) (.asg (.nm i) ea) := ps_imp (ps_set hN hi hx ha hs hf) fun D σ H t => asg_red (fun _ z => z) t
/-- name = [.. for ..] on one line -/
theorem js_setC {i : Nat} {y : Str} {py : Pos} {elt tg iter : Expr} {ifs : List Expr} {scope : Scope} {own : List (Str × Nat)} {pos spos : Pos} {ee : E} {is : List Nat} {one : TgK} {k : ITK} {its : List E} {cond : Option E} (hc : X.calm = true) (hN : X.N.Nodup) (hi : JI X W C tg iter k its) (ok : BlkOk X.N X.env.scope scope own)
    (hg : ∀ (s : Shared) (H : Hp) (C : Addr) (cl : List (Str × Addr)) (fp : List Addr), PG (X.blk s H scope (compEnvC scope cl C X.env) fp) tg (gT X.K is one)) (ht : ∀ (s : Shared) (H : Hp) (C' : Addr) (cl : List (Str × Addr)) (fp : List Addr), PTs (X.blk s H scope (compEnvC scope cl C' X.env) fp) ifs (tCond (zOf (X.blk s H scope (compEnvC scope cl C' X.env) fp)) X.mg C cond))
    (he : ∀ (s : Shared) (H : Hp) (C' : Addr) (cl : List (Str × Addr)) (fp : List Addr), JE (X.blk s H scope (compEnvC scope cl C' X.env) fp) W0 C elt ee) (hy : X.N[i]? = some y := by rfl) (hyl : X.env.scope.names.lookup y = some .local := by rfl)
    (hsw : swapsWith (.ListComp elt [⟨tg, iter, ifs, 0⟩] scope pos) (some (.Name y py)) spos.line X.env = pure true := by exact sw_true rfl rfl rfl (by decide +kernel)) (his : ∀ i ∈ is, i ∈ own.map (·.2) := by decide) (hs : ∀ x, foldedSetIterable iter X.env x = pure x := by intro _; rfl) :
    JS X W C (.Assign [.Name y py] (.ListComp elt [⟨tg, iter, ifs, 0⟩] scope pos) spos) (.asg (.nm i) (.comp ee is one k its cond (own.map (·.2)))) :=
  by
  have hz : zOf X = ⟨X.K, [], X.prog, X.w⟩ := z_calm hc
  have hzb : ∀ (s : Shared) (H : Hp) (cenv : PySem.Env) (fp : List Addr), zOf (X.blk s H scope cenv fp) = ⟨X.K, [], X.prog, X.w⟩ := fun s H cenv fp => z_calm (X := X.blk s H scope cenv fp) hc
  have ht' : ∀ (s : Shared) (H : Hp) (C' : Addr) (cl : List (Str × Addr)) (fp : List Addr), PTs (X.blk s H scope (compEnvC scope cl C' X.env) fp) ifs (tCond ⟨X.K, [], X.prog, X.w⟩ X.mg C cond) := fun s H C' cl fp => by
    have z := ht s H C' cl fp
    rw [hzb] at z
    exact z
  have he' : ∀ (s : Shared) (H : Hp) (C' : Addr) (cl : List (Str × Addr)) (fp : List Addr), PE (X.blk s H scope (compEnvC scope cl C' X.env) fp) elt (tE ⟨X.K, [], X.prog, X.w⟩ X.mg W0 C ee) := fun s H C' cl fp => by
    have z := he s H C' cl fp
    unfold JE at z
    rw [hzb] at z
    exact z
  exact ps_imp (ps_setLc (te := tE ⟨X.K, [], X.prog, X.w⟩ X.mg W0 C ee) hc hN hy hyl hsw hi ok hg ht' he' hs) fun D σ H t => by
    have t' := asg_red (X := X) (fun _ z => comp_red his z) t
    rw [← hz]
    exact t'
/-- (a, b, ..) = e -/
theorem js_tup {tg : Expr} {is : List Nat} (ha : JE X W C a ea) (hg : PG X tg (gTup X.K is.length (gNs is))) (hs : swapsWithSole [tg] a pos.line X.env = pure false := by rfl) (hw : swappedStores [tg] a X.env = pure none := by rfl)
    (h1 : (assignEach [tg] X.env).map (·.2) = [assign tg X.env] := by rfl) : JS X W C (.Assign [tg] a pos) (.asg (.tup is) ea) := ps_imp (ps_asg ha hg hs hw h1) fun D σ H ⟨ρ, φ, h, sm, re, o⟩ =>
  ⟨ρ, φ, h, sm, re, (OutS.st (rel := RV (zOf X)) re (show OutS (zOf X) X.mg φ H W D ((evE C ea ρ h).st ρ fun v h1 => stTg C (.tup is) v ρ h1) from o)).imp fun x H1 ⟨φ1, v, h1, x1, s1, r1, o1⟩ => by
    cases v with
    | tup l =>
      simp only [stTg] at o1
      cases e : setAll ρ is l with
      | none => simp only [e] at o1; exact (show False from o1).elim
      | some ρ' =>
        simp only [e] at o1
        obtain ⟨ad, vs, hx, hq, r'⟩ := r1
        obtain ⟨g1, g2⟩ := setAll_ok (re.mono x1) r' e
        exact ⟨ad, vs, hx, hq.sq, g2.symm, gNs_ok g2 (OutS.atN o1 s1 g1)⟩
    | _ => exact (show False from o1).elim⟩
/-- a, b = x, y: two plain names -/
theorem js_par {i j : Nat} {x y : Str} {px py pt : Pos} {kt k2 : Nat} {pt2 : Pos} (hc : X.calm = true) (hN : X.N.Nodup) (ha : JA X W C [a, b] [ea, eb]) (hij : i ≠ j := by decide) (hi : X.N[i]? = some x := by rfl) (hj : X.N[j]? = some y := by rfl)
    (hx : X.env.scope.names.lookup x = some .local := by rfl) (hy : X.env.scope.names.lookup y = some .local := by rfl)
    (hw : swappedStores [.Tuple [.Name x px, .Name y py] kt pt] (.Tuple [a, b] k2 pt2) X.env = pure (some [x, y]) := by rfl)
    (hs : swapsWithSole [.Tuple [.Name x px, .Name y py] kt pt] (.Tuple [a, b] k2 pt2) pos.line X.env = pure false := by rfl) :
    JS X W C (.Assign [.Tuple [.Name x px, .Name y py] kt pt] (.Tuple [a, b] k2 pt2) pos) (.asg (.tup [i, j]) (.tup [ea, eb])) := ps_imp (ps_par hc hN hi hj hij hx hy ha hw hs) fun D σ H ⟨ρ, φ, h, sm, re, o⟩ => by
  have o' : OutS (zOf X) X.mg φ H W D ((evGs C [ea, eb] ρ h).st ρ fun l h1 => (tupO l h1).st ρ fun v h2 => stTg C (.tup [i, j]) v ρ h2) := by
    have e : exS C (.asg (.tup [i, j]) (.tup [ea, eb])) ρ h = (evGs C [ea, eb] ρ h).st ρ fun l h1 => (tupO l h1).st ρ fun v h2 => stTg C (.tup [i, j]) v ρ h2 := by
      show (((evGs C [ea, eb] ρ h).bind fun l h1 => tupO l h1).st ρ fun v h1 => stTg C (.tup [i, j]) v ρ h1) = _
      cases evGs C [ea, eb] ρ h <;> rfl
    rw [← e]
    exact o
  refine ⟨ρ, φ, h, sm, re, (OutS.st (rel := RVs (zOf X)) re o').imp fun vs H1 ⟨φ1, l, h1, x1, s1, r1, o1⟩ => ?_⟩
  unfold tupO at o1
  split at o1
  · have o2 : OutS (zOf X) X.mg φ1 H1 W D (match setAll ρ [i, j] l with | some ρ' => .nx ρ' h1 | none => .no) := o1
    cases e : setAll ρ [i, j] l with
    | none => rw [e] at o2; exact (show False from o2).elim
    | some ρ' =>
      rw [e] at o2
      obtain ⟨g1, g2⟩ := setAll_ok (re.mono x1) r1 e
      match vs, g2, g1 with
      | [v, w], _, g1 => exact ⟨v, w, rfl, OutS.atN o2 s1 g1⟩
  · exact (show False from o1).elim
/-- o[i] = e -/
theorem js_sub {o i : Expr} {eo ei : E} {tpos : Pos} (hu : X.A.units + 66 < cLine) (ha : JE X W C a ea) (ho : JE X W C o eo) (hi : JE X W C i ei)
    (hg : ∀ v, assign (.Subscript o i tpos) X.env v = (do
      let ov ← holding [v] (eval o X.env)
      let iv ← holding [v, ov] (eval i X.env)
      standAt tpos
      holding [v, ov, iv] (setItem ov iv v)
      release [v, ov, iv] []) := by intro _; rfl)
    (hs : swapsWithSole [.Subscript o i tpos] a pos.line X.env = pure false := by rfl) (hw : swappedStores [.Subscript o i tpos] a X.env = pure none := by rfl)
    (h1 : (assignEach [.Subscript o i tpos] X.env).map (·.2) = [assign (.Subscript o i tpos) X.env] := by rfl) : JS X W C (.Assign [.Subscript o i tpos] a pos) (.asg (.sub eo ei) ea) :=
  ps_imp (ps_asg ha (pg_sub ho hi (set_ok (by omega)) hg) hs hw h1) fun D σ H ⟨ρ, φ, h, sm, re, oo⟩ =>
    ⟨ρ, φ, h, sm, re, (OutS.st (rel := RV (zOf X)) re (show OutS (zOf X) X.mg φ H W D ((evE C ea ρ h).st ρ fun v h1 => (evE C eo ρ h1).st ρ fun x h2 => (evE C ei ρ h2).st ρ fun y h3 => match zbo x y v h3 with | some h4 => .nx ρ h4 | none => .no) from oo)).imp fun x H1 ⟨φ1, v, h1, x1, s1, r1, o1⟩ =>
      ⟨ρ, φ1, h1, s1, re.mono x1, (OutS.st (rel := RV (zOf X)) (re.mono x1) o1).imp fun y H2 ⟨φ2, w, h2, x2, s2, r2, o2⟩ =>
        ⟨ρ, φ2, h2, s2, (re.mono x1).mono x2, (OutS.st (rel := RV (zOf X)) ((re.mono x1).mono x2) o2).imp fun z H3 ⟨φ3, u, h3, x3, s3, r3, o3⟩ => by
          cases e : zbo w u v h3 with
          | none => rw [e] at o3; exact (show False from o3).elim
          | some h4 =>
            rw [e] at o3
            exact ⟨φ3, h3, w, u, v, h4, s3, r2.mono x3, r3, (r1.mono x2).mono x3, e, fun H4 x4 s4 => (show OutS (zOf X) X.mg φ3 H3 W D (.nx ρ h4) from o3) φ3 H4 σ x4 s4 ((((re.mono x1).mono x2).mono x3).mono x4)⟩⟩⟩⟩
theorem iop_ok {W' : XK} (op : Operator) : OpR X (inplaceOp op) (rOp (zOf X) X.mg W' (iopF op)) := by
  intro pins s σ H x y v u Q I rx ry hh
  obtain ⟨φ, h, a, b, sm, ra, rb, o⟩ := hh
  unfold iopF at o
  split at o
  · exact iop_add pins s σ H x y v u Q I rx ry ⟨_, _, ra, rb, o.at sm rfl⟩
  · exact iop_sub pins s σ H x y v u Q I rx ry ⟨_, _, ra, rb, o.at sm rfl⟩
  · split at o
    · rename_i hm
      exact iop_add_str pins s σ H x y v u Q I rx ry ⟨_, _, ra, rb, line_ok hm, o.at sm rfl⟩
    · exact o.elim
  · exact o.elim
theorem pget_ok : PGet X (fun x y H Q => ∃ W', rOp (zOf X) X.mg W' getL x y H Q) := by
  intro pins s σ H o i ov iv Q I ro ri hh
  obtain ⟨W', φ, h, a, b, sm, ra, rb, oo⟩ := hh
  unfold getL at oo
  split at oo
  · rename_i n k
    split at oo
    · rename_i hk
      split at oo
      · rename_i l e1
        obtain ⟨p, e2, q⟩ := oo.some
        obtain ⟨ad, vs, f1, g1, r1⟩ := sm.lst e1
        obtain ⟨b1, hx, q1⟩ := ra
        rw [f1] at q1
        cases q1
        obtain ⟨w, e3, rw'⟩ := r1.get e2
        subst hx
        cases ro
        rw [show i = .int k from rb] at ri
        obtain ⟨t, rfl⟩ := ri
        obtain ⟨its, rr, pl, hz⟩ := I.list (SqL.of g1)
        obtain ⟨u, eu, ru⟩ := rr.get e3
        have hl := rr.length
        have hlt := (List.getElem?_eq_some_iff.mp e3).1
        have hs := sizeLine_eq
        exact wpAny_getItem_list pl.isList hk (by omega) (by simpa using eu) ⟨w, H, I, ru, q.at sm rw'⟩
      · exact oo.elim
    · exact oo.elim
  · exact oo.elim
theorem js_augs {o i : Expr} {eo ei : E} {op : Operator} {tpos : Pos} (hu : X.A.units + 66 < cLine) (ho : JE X W C o eo) (hi : JE X W C i ei) (ha : JE X W C a ea)
    (hg : ∀ ov iv new, augStore i ov iv new = (do holding [new, ov, iv] (setItem ov iv new); release [new, ov, iv] []; pure .next) := by intros; rfl) : JS X W C (.AugAssign (.Subscript o i tpos) op a pos) (.augs eo ei op ea) :=
  ps_imp (ps_augS (tip := fun x y H Q => ∃ W', rOp (zOf X) X.mg W' (iopF op) x y H Q) ho hi pget_ok ha (opr_any fun W' => iop_ok (W' := W') op) (set_ok (by omega)) hg) fun D σ H ⟨ρ, φ, h, sm, re, oo⟩ =>
    ⟨ρ, φ, h, sm, re, (OutS.st (rel := RV (zOf X)) re (show OutS (zOf X) X.mg φ H W D ((evE C eo ρ h).st ρ fun ov h1 => (evE C ei ρ h1).st ρ fun iv h2 => (getL ov iv h2).st ρ fun x h3 => (evE C ea ρ h3).st ρ fun y h4 => (iopF op x y h4).st ρ fun z h5 => match zbo ov iv z h5 with | some h6 => .nx ρ h6 | none => .no) from oo)).imp fun x H1 ⟨φ1, ov, h1, x1, s1, r1, o1⟩ =>
      ⟨ρ, φ1, h1, s1, re.mono x1, (OutS.st (rel := RV (zOf X)) (re.mono x1) o1).imp fun y H2 ⟨φ2, iv, h2, x2, s2, r2, o2⟩ =>
        ⟨_, φ2, h2, ov, iv, s2, r1.mono x2, r2, (OutS.st (rel := RV (zOf X)) ((re.mono x1).mono x2) o2).imp fun g H3 ⟨φ3, gv, h3, x3, s3, r3, o3⟩ =>
          ⟨ρ, φ3, h3, s3, ((re.mono x1).mono x2).mono x3, (OutS.st (rel := RV (zOf X)) (((re.mono x1).mono x2).mono x3) o3).imp fun y4 H4 ⟨φ4, yv, h4, x4, s4, r4, o4⟩ =>
            ⟨_, φ4, h4, gv, yv, s4, r3.mono x4, r4, (OutS.st (rel := RV (zOf X)) ((((re.mono x1).mono x2).mono x3).mono x4) o4).imp fun z H5 ⟨φ5, zv, h5, x5, s5, r5, o5⟩ => by
              have re5 := ((((re.mono x1).mono x2).mono x3).mono x4).mono x5
              cases e : zbo ov iv zv h5 with
              | none => rw [e] at o5; exact (show False from o5).elim
              | some h6 =>
                rw [e] at o5
                exact ⟨φ5, h5, ov, iv, zv, h6, s5, (((r1.mono x2).mono x3).mono x4).mono x5, ((r2.mono x3).mono x4).mono x5, r5, e, fun H6 x6 s6 => (show OutS (zOf X) X.mg φ5 H5 W D (.nx ρ h6) from o5) φ5 H6 σ x6 s6 (re5.mono x6)⟩⟩⟩⟩⟩⟩
end
end Sb
namespace Sb
open PySem PySem.Spec L2
section
variable {K : ZZ} {mg : Str → Option Value} {φ : List Addr} {H : Hp} {W : WX} {D D' : Ends}
/-- a turn's end -/
theorem OutS.turn {m : RS} {f : Env → PH → RS} (h : OutS K mg φ H W D (m.turn f)) (hN : ∀ φ' H' σ' ρ' h', Ext φ φ' H H' → Sim K φ' h' H' → RE K φ' H' ρ' σ' → OutS K mg φ' H' W D (f ρ' h') → D'.nx σ' H') (hC : D'.ct = D'.nx) (hB : D'.bk = D.nx) (hR : D'.rt = D.rt) : OutS K mg φ H W D' m := by
  cases m with
  | nx ρ1 h1 => exact fun φ' H' σ' x s r => hN φ' H' σ' ρ1 h1 x s r (OutS.mono x h)
  | ct ρ1 h1 =>
    intro φ' H' σ' x s r
    rw [hC]
    exact hN φ' H' σ' ρ1 h1 x s r (OutS.mono x h)
  | bk ρ1 h1 =>
    intro φ' H' σ' x s r
    rw [hB]
    exact h φ' H' σ' x s r
  | rt v h1 =>
    intro φ' H' y x s r
    rw [hR]
    exact h φ' H' y x s r
  | ex y ρ1 h1 => exact h
  | no => exact h
end
section
variable {X : Cx} {W : WX} {C : Calls} {a b c tg iter : Expr} {st : Stmt} {sts rest : List Stmt} {pos : Pos} {ea eb ec : E} {s : S} {ss ss2 : List S}
theorem js_while0 (hp : PassesOwn (model X.prog X.w) X.A X.env X.xe) (hc : JT X W C c ec) (hb : JSs X W C sts ss) : JS X W C (.While c sts [] pos) (.whl ec ss) := ps_imp (ps_while hp hc hb) fun D σ H ⟨ρ, φ, h, sm, re, o⟩ => by
  have o' : OutS (zOf X) X.mg φ H W D (whileF (fun ρ h => evT C ec ρ h) (fun ρ h => exSs C ss ρ h) ρ h) := o
  have ne : whileF (fun ρ h => evT C ec ρ h) (fun ρ h => exSs C ss ρ h) ρ h ≠ .no := fun z => by
    rw [z] at o'
    exact o'
  obtain ⟨n, _, e⟩ := whileF_some ne
  rw [e] at o'
  refine ⟨fun m σ H => ∃ ρ φ h, Sim (zOf X) φ h H ∧ RE (zOf X) φ H ρ σ ∧ OutS (zOf X) X.mg φ H W D (zaw (fun ρ h => evT C ec ρ h) (fun ρ h => exSs C ss ρ h) m ρ h), ⟨n, ρ, φ, h, sm, re, o'⟩, ?_⟩
  rintro m σ H ⟨ρ, φ, h, sm, re, o⟩
  cases m with
  | zero => exact (show False from o).elim
  | succ m =>
    refine ⟨ρ, φ, h, sm, re, (OutS.st (rel := RI) re (show OutS (zOf X) X.mg φ H W D ((evT C ec ρ h).st ρ fun k h1 => if k then (exSs C ss ρ h1).turn (zaw (fun ρ h => evT C ec ρ h) (fun ρ h => exSs C ss ρ h) m) else .nx ρ h1) from o)).imp fun k H1 ⟨φ1, k1, h1, x1, s1, r1, o1⟩ => ?_⟩
    have r1' : k1 = k := r1
    subst r1'
    cases k1 with
    | false =>
      simp only [Bool.false_eq_true, if_false] at o1 ⊢
      exact OutS.atN o1 s1 (re.mono x1)
    | true =>
      simp only [if_true] at o1 ⊢
      refine ⟨fun σ H => ∃ ρ φ h, Sim (zOf X) φ h H ∧ RE (zOf X) φ H ρ σ ∧ OutS (zOf X) X.mg φ H W D (zaw (fun ρ h => evT C ec ρ h) (fun ρ h => exSs C ss ρ h) m ρ h), fun σ' H' z => ⟨m, Nat.lt_succ_self m, z⟩, ρ, φ1, h1, s1, re.mono x1, ?_⟩
      exact OutS.turn o1 (fun φ' H' σ' ρ' h' x s r o => ⟨ρ', φ', h', s, r, o⟩) rfl rfl rfl
theorem js_for0 {is : List Nat} {one : TgK} {k : ITK} {its : List E} (hp : PassesOwn (model X.prog X.w) X.A X.env X.xe) (hc : X.calm = true) (hi : JI X W C tg iter k its) (hg : PG X tg (gT X.K is one)) (hb : JSs X W C sts ss)
    (hs : ∀ x, foldedSetIterable iter X.env x = pure x := by intro _; rfl) : JS X W C (.For tg iter sts [] pos) (.fr is one k its ss) := ps_imp (ps_for hp hc hi hg hb hs) fun D σ H ⟨ρ, φ, h, sm, re, o⟩ => by
  have o' : OutS (zOf X) X.mg φ H W D ((evI C k its ρ h).st ρ fun w h1 => forLoop w.2 (fun ρ x => zbp ρ is one x) (fun ρ h => exSs C ss ρ h) w.1 ρ h1) := by
    have e : exS C (.fr is one k its ss) ρ h = (evI C k its ρ h).st ρ fun w h1 => forLoop w.2 (fun ρ x => zbp ρ is one x) (fun ρ h => exSs C ss ρ h) w.1 ρ h1 := by
      unfold evI
      show ((evGs C its ρ h).st ρ _) = _
      cases evGs C its ρ h with
      | ok l h1 =>
        rw [R.st_ok, R.bind_ok]
        cases walkF k l h1 with
        | none => rfl
        | some w => rfl
      | ex x h1 => rfl
      | no => rfl
    rw [← e]
    exact o
  refine ⟨ρ, φ, h, sm, re, (OutS.st (rel := relW (zOf X)) re o').imp fun J H1 ⟨φ1, w, h1, x1, s1, wk, o1⟩ => ?_⟩
  obtain ⟨items, kp⟩ := w
  have wk : WalkOk (zOf X) J φ1 H1 items kp := wk
  refine ⟨fun i m σ2 H2 => ∃ ρ2 φ2 h2, m = (items.drop i).length ∧ Ext φ1 φ2 H1 H2 ∧ Sim (zOf X) φ2 h2 H2 ∧ RE (zOf X) φ2 H2 ρ2 σ2 ∧ OutS (zOf X) X.mg φ2 H2 W D (forLoop kp (fun ρ x => zbp ρ is one x) (fun ρ h => exSs C ss ρ h) (items.drop i) ρ2 h2),
    ⟨items.length, ρ, φ1, h1, rfl, Ext.refl _ _, s1, re.mono x1, o1⟩, ?_⟩
  rintro i m σ2 H2 ⟨ρ2, φ2, h2, hm, x2, s2, re2, o2⟩
  cases e : items.drop i with
  | nil =>
    rw [e] at o2
    unfold forLoop at o2
    split at o2
    · rename_i hs
      exact .inl ⟨wk.stop i φ2 h2 H2 x2.kp s2 hs (List.drop_eq_nil_iff.mp e), OutS.atN o2 s2 re2⟩
    · exact (show False from o2).elim
  | cons p rest =>
    have ei : items[i]? = some p := by
      have := congrArg (·[0]?) e
      simpa using this
    have er : items.drop (i + 1) = rest := by
      rw [← List.drop_drop, e]
      rfl
    rw [e] at o2
    unfold forLoop at o2
    split at o2
    · rename_i hs
      obtain ⟨hgo, hy⟩ := wk.go i φ2 h2 H2 p x2.kp s2 hs ei
      refine .inr ⟨hgo, fun σ3 H3 => ∃ ρ3 φ3 h3, Ext φ1 φ3 H1 H3 ∧ Sim (zOf X) φ3 h3 H3 ∧ RE (zOf X) φ3 H3 ρ3 σ3 ∧ OutS (zOf X) X.mg φ3 H3 W D (forLoop kp (fun ρ x => zbp ρ is one x) (fun ρ h => exSs C ss ρ h) rest ρ3 h3), fun σ3 H3 z => ?_, fun v H3 y => ?_⟩
      · obtain ⟨ρ3, φ3, h3, z1, z2, z3, z4⟩ := z
        refine ⟨rest.length, by rw [hm, e, List.length_cons]; omega, ρ3, φ3, h3, by rw [er], z1, z2, z3, ?_⟩
        rw [er]
        exact z4
      · obtain ⟨ex, sx, rx⟩ := hy v H3 y
        cases eb : zbp ρ2 is one p with
        | none => simp only [eb] at o2; exact (show False from o2).elim
        | some ρ3 =>
          simp only [eb] at o2
          refine gT_ok (re2.mono ex) rx eb fun σ3 re3 _ => ⟨ρ3, φ2, h2, sx, re3, ?_⟩
          exact OutS.turn (OutS.mono ex o2) (fun φ' H' σ' ρ' h' x s r o => ⟨ρ', φ', h', (x2.trans ex).trans x, s, r, o⟩) rfl rfl rfl
    · exact (show False from o2).elim
end
structure Cq (X : Cx) (W : WX) (k : Nat) : Prop where
  calm : X.calm = true
  nd : X.N.Nodup
  hr : Room (2 * k + 4) X.A
  tk : L2N.Takes X W
  po : PassesOwn (model X.prog X.w) X.A X.env X.xe
theorem Cq.blk {X : Cx} {W : WX} {k : Nat} (c : Cq X W k) (s : Shared) (H : Hp) (scope : Scope) (cenv : PySem.Env) (fp : List Addr) : Cq (X.blk s H scope cenv fp) W0 k := ⟨c.calm, c.nd, c.hr, takesN0, PassesOwn.never⟩
/-- a loop's or comprehension's target: one name, names -/
theorem tg_one {X : Cx} {i : Nat} {x : Str} {pos : Pos} (hN : X.N.Nodup) (hi : X.N[i]? = some x := by rfl) (hx : Loc X.env.scope x := by first | exact .inl rfl | exact .inr rfl) (hf : X.fn x = true ∨ X.env.scope.names.lookup x = some .local := by first | exact .inl rfl | exact .inr rfl | assumption) : PG X (.Name x pos) (gT X.K [i] .one) := pg_name hN hi hx hf
theorem tgs_nil {X : Cx} : PGs X [] (gNs []) := pgs_nil
theorem tgs_cons {X : Cx} {i : Nat} {is : List Nat} {x : Str} {pos : Pos} {es : List Expr} (hN : X.N.Nodup) (h2 : PGs X es (gNs is)) (hi : X.N[i]? = some x := by rfl) (hx : Loc X.env.scope x := by first | exact .inl rfl | exact .inr rfl) (hf : X.fn x = true ∨ X.env.scope.names.lookup x = some .local := by first | exact .inl rfl | exact .inr rfl | assumption)
    (hs : (assignEach (.Name x pos :: es) X.env).map (·.2) = assign (.Name x pos) X.env :: (assignEach es X.env).map (·.2) := by rfl) : PGs X (.Name x pos :: es) (gNs (i :: is)) := pgs_cons (pg_name hN hi hx hf) h2 hs
theorem tg_tup {X : Cx} {es : List Expr} {kk : Nat} {pos : Pos} {is : List Nat} (hc : X.calm = true) (h : PGs X es (gNs is)) (hn : (assignEach es X.env).length = is.length := by rfl) (hst : (assignEach es X.env).findIdx? (·.1) = none := by rfl) : PG X (.Tuple es kk pos) (gT X.K is .tup) := pg_tup hc h hn hst
theorem tg_tup' {X : Cx} {es : List Expr} {kk : Nat} {pos : Pos} {is : List Nat} (hc : X.calm = true) (h : PGs X es (gNs is)) (hn : (assignEach es X.env).length = is.length := by rfl) (hst : (assignEach es X.env).findIdx? (·.1) = none := by rfl) : PG X (.Tuple es kk pos) (gTup X.K is.length (gNs is)) := pg_tup hc h hn hst
/-- a comprehension's test -/
theorem cd_none {X : Cx} {C : Calls} : PTs X [] (tCond (zOf X) X.mg C none) := pts_nil
theorem cd_some {X : Cx} {C : Calls} {a : Expr} {e : E} (h : JT X W0 C a e) : PTs X [a] (tCond (zOf X) X.mg C (some e)) := pts_one h
theorem start_re {K : ZZ} {φ : List Addr} {H : Hp} : ∀ {ps : List PV} {vs : List V} (n : Nat), RVs K φ H ps vs → RE K φ H (ps.map some ++ List.replicate n none) (vs.map some ++ List.replicate n none)
  | [], vs, n, r => by
    have : vs = [] := r
    subst this
    show RE K φ H (List.replicate n none) (List.replicate n none)
    induction n with
    | zero => exact rfl
    | succ n ih => exact ⟨none, List.replicate n none, rfl, fun x e => (by cases e), ih⟩
  | p :: ps, vs, n, r => by
    obtain ⟨v, t, e, q, s⟩ := r
    subst e
    exact ⟨some v, _, rfl, fun x e => ⟨v, rfl, by cases e; exact q⟩, start_re n s⟩
theorem FunD.okC {P : Program} {w : World} {K : PySem.W.Frag} {mg : Str → Option Value} {base : Heap} {x qual : Str} {params : Arguments} {body : List Stmt} {scope : Scope} {dvs : List V} {kws : List (Str × V)} {f : Addr} {fd : FuncData} {CX : CXT} {N ps : List Str} {k : Nat} {sp : Sp} (F : FunD K x qual params body scope dvs kws f fd) (S : FnScope N ps scope) (len : ∀ vs H Q E, sp vs H Q E → vs.length = ps.length)
    (hbody : ∀ (cdv : Value) (A : Around) (outer : List PySem.Env) (s : Shared) (H : Hp) (vs : List V) (Q : VK) (E : XK), fd.code = cdv → Room k (A.deeper (PyProof.Rows.envOfC qual scope s.heap.objs.size f cdv)) → sp vs H Q E →
      ∃ t, PSs (cxOf CX P w K mg base N qual scope f cdv A outer s H E) body t ∧ t { nx := fun _ H' => Q .non H', rt := Q } (L2.start N vs) H) : FnOk P w K mg base CX (k + 1) f fd ps sp := by
  obtain ⟨oc, od, dV, kV, doc, pm, an, cdv, ct, osl, rfl, lk, hcd, _, _⟩ := F.ex
  exact fn_of lk hcd S len fun A outer s H vs Q E hr hsp => hbody cdv A outer s H vs Q E rfl hr hsp
theorem fn_ok {P : Program} {w : World} {K : PySem.W.Frag} {mg : Str → Option Value} {base : Heap} {x qual : Str} {params : Arguments} {body : List Stmt} {scope : Scope} {dvs : List V} {kws : List (Str × V)} {f : Addr} {fd : FuncData} {N ps : List Str} {k : Nat} {tbl : Nat → Fn} {fi : Nat}
    (F : FunD K x qual params body scope dvs kws f fd) (S : FnScope N ps scope) (hn : N.length = (tbl fi).ns) (hp : ps.length = (tbl fi).np)
    (hb : ∀ (cdv : Value) (A : Around) (outer : List PySem.Env) (s : Shared) (H : Hp) (E : XK), fd.code = cdv → Cq (cxOf (L2N.CX P w) P w K mg base N qual scope f cdv A outer s H E) (fun c d _ H => E c d H) k → JSs (cxOf (L2N.CX P w) P w K mg base N qual scope f cdv A outer s H E) (fun c d _ H => E c d H) (call tbl k) body (tbl fi).body) :
    FnOk P w K mg base (L2N.CX P w) (2 * (k + 1) + 3) f fd ps (spF ⟨K, [], P, w⟩ mg (call tbl (k + 1)) fi ps.length) := by
  refine FunD.okC F S (fun vs H Q E h => h.1) fun cdv A outer s H vs Q E hcd hr h => ?_
  obtain ⟨hl, φ, hh, pl, sm, r, o⟩ := h
  refine ⟨_, hb cdv A outer s H E hcd ⟨rfl, S.nd, hr, L2N.takes_of rfl rfl rfl rfl, PassesOwn.leaving⟩, ?_⟩
  have o' : Out ⟨K, [], P, w⟩ mg (RV ⟨K, [], P, w⟩) φ H E Q (runFn (call tbl k) (tbl fi) pl hh) := o
  unfold runFn at o'
  split at o'
  · rename_i hlen
    have re := start_re (N.length - vs.length) r
    have e1 : zax (tbl fi).ns pl = pl.map some ++ List.replicate (N.length - vs.length) none := by
      unfold zax
      rw [hn, r.length]
    refine ⟨zax (tbl fi).ns pl, φ, hh, sm, by rw [e1]; exact re, ?_⟩
    generalize exSs (call tbl k) (tbl fi).body (zax (tbl fi).ns pl) hh = m at o'
    cases m with
    | nx ρ h1 => exact fun φ' H' σ' x s r => o' φ' H' .non x s rfl
    | rt v h1 => exact fun φ' H' y x s r => o' φ' H' y x s r
    | ex y ρ h1 => exact fun φ' H' σ' c d x s _ r => o' φ' H' c d x s r
    | bk ρ h1 => exact (show False from o').elim
    | ct ρ h1 => exact (show False from o').elim
    | no => exact (show False from o').elim
  · exact (show False from o').elim
theorem za3 {P : Program} {w : World} {K : PySem.W.Frag} {mg : Str → Option Value} {base : Heap} {f : Addr} {fd : FuncData} {ps : List Str} {tbl : Nat → Fn} {fi : Nat} : FnOk P w K mg base (L2N.CX P w) (2 * 0 + 3) f fd ps (spF ⟨K, [], P, w⟩ mg (call tbl 0) fi ps.length) :=
  ⟨fun vs H Q E h => h.1, fun A outer s H args us vs Q E hr he hb hv h => by
    obtain ⟨_, φ, hh, pl, sm, r, o⟩ := h
    exact (show False from o).elim⟩
theorem cx_false {P : Program} {w : World} {H : Hp} {s : Shared} {e : Value} {s' : Shared} (h : L2N.CX P w [] H s (fun _ _ _ => False) e s') : False := by
  obtain ⟨_, _, _, _, _, _, _, _, _, _, _, _, z⟩ := h
  exact z.elim
end Sb
namespace Sb
open PySem
def R.Sat {α : Type} (m : R α) (Q : α → PH → Prop) : Prop := match m with | .ok a h => Q a h | _ => False
@[simp] theorem zan {α : Type} (a : α) (h : PH) (Q : α → PH → Prop) : (R.ok a h).Sat Q = Q a h := rfl
@[simp] theorem sat_no {α : Type} (Q : α → PH → Prop) : (R.no : R α).Sat Q = False := rfl
@[simp] theorem sat_ex {α : Type} (x : Exn) (h : PH) (Q : α → PH → Prop) : (R.ex x h : R α).Sat Q = False := rfl
@[simp] theorem zai {α β : Type} (m : R α) (f : α → PH → R β) (Q : β → PH → Prop) : (m.bind f).Sat Q = m.Sat fun a h => (f a h).Sat Q := by
  cases m <;> rfl
@[simp] theorem sat_calm {α : Type} (m : R α) (Q : α → PH → Prop) : m.calm.Sat Q = m.Sat Q := by
  cases m <;> rfl
theorem R.Sat.imp {α : Type} {m : R α} {Q Q' : α → PH → Prop} (s : m.Sat Q) (f : ∀ a h, Q a h → Q' a h) : m.Sat Q' := by
  cases m with
  | ok a h => exact f a h s
  | ex x h => exact s
  | no => exact s
theorem R.Sat.ex {α : Type} {m : R α} {Q : α → PH → Prop} (s : m.Sat Q) : ∃ a h, m = .ok a h ∧ Q a h := by
  cases m with
  | ok a h => exact ⟨a, h, rfl, s⟩
  | ex x h => exact s.elim
  | no => exact s.elim
theorem R.Sat.of {α : Type} {m : R α} {Q : α → PH → Prop} {a : α} {h : PH} (e : m = .ok a h) (q : Q a h) : m.Sat Q := by
  rw [e]
  exact q
@[simp] theorem sat_ofO {α : Type} (o : Option α) (h : PH) (Q : α → PH → Prop) : (ofO o h).Sat Q = ∃ a, o = some a ∧ Q a h := by
  cases o with
  | none => simp [ofO]
  | some a => simp [ofO]
@[simp] theorem sat_asB (m : R PV) (Q : Bool → PH → Prop) : (asB m).Sat Q = m.Sat fun x h => match x with | .bl b => Q b h | _ => False := by
  cases m with
  | ok p h => cases p <;> rfl
  | ex x h => rfl
  | no => rfl
/-- statements: N the next, T a return -/
def RS.Sat (m : RS) (N : Env → PH → Prop) (T : PV → PH → Prop) : Prop := match m with | .nx ρ h => N ρ h | .rt v h => T v h | _ => False
@[simp] theorem ssat_nx (ρ : Env) (h : PH) (N : Env → PH → Prop) (T : PV → PH → Prop) : (RS.nx ρ h).Sat N T = N ρ h := rfl
@[simp] theorem ssat_rt (v : PV) (h : PH) (N : Env → PH → Prop) (T : PV → PH → Prop) : (RS.rt v h).Sat N T = T v h := rfl
@[simp] theorem ssat_no (N : Env → PH → Prop) (T : PV → PH → Prop) : RS.no.Sat N T = False := rfl
@[simp] theorem ssat_seq (m : RS) (f : Env → PH → RS) (N : Env → PH → Prop) (T : PV → PH → Prop) : (m.seq f).Sat N T = m.Sat (fun ρ h => (f ρ h).Sat N T) T := by
  cases m <;> rfl
@[simp] theorem ssat_st {α : Type} (m : R α) (ρ : Env) (f : α → PH → RS) (N : Env → PH → Prop) (T : PV → PH → Prop) : (m.st ρ f).Sat N T = m.Sat fun a h => (f a h).Sat N T := by
  cases m <;> rfl
theorem RS.Sat.imp {m : RS} {N N' : Env → PH → Prop} {T T' : PV → PH → Prop} (s : m.Sat N T) (f : ∀ ρ h, N ρ h → N' ρ h) (g : ∀ v h, T v h → T' v h) : m.Sat N' T' := by
  cases m with
  | nx ρ h => exact f ρ h s
  | rt v h => exact g v h s
  | bk _ _ => exact s
  | ct _ _ => exact s
  | ex _ _ _ => exact s
  | no => exact s
section
variable {C : Calls} {t : Bool} {ρ : Env} {h : PH} {a b c : E}
@[simp] theorem g_var (i : Nat) : evG C (.var i) t ρ h = fin t (ofO (ρ.get i) h) := by rfl
@[simp] theorem g_lit (v : PV) : evG C (.lit v) t ρ h = fin t (.ok v h) := by rfl
@[simp] theorem g_bin (op : Operator) : evG C (.bin op a b) t ρ h = fin t ((evG C a false ρ h).bind fun x h1 => (evG C b false ρ h1).bind fun y h2 => binop op x y h2) := by rfl
@[simp] theorem g_neg : evG C (.neg a) t ρ h = fin t ((evG C a false ρ h).bind fun x h1 => match x with | .int i => .ok (.int (-i)) h1 | _ => .no) := by rfl
@[simp] theorem g_nt : evG C (.nt a) t ρ h = (evG C a t ρ h).bind fun x h1 => match x with | .bl b => .ok (.bl (!b)) h1 | _ => .no := by rfl
@[simp] theorem g_and : evG C (.band a b) t ρ h = (evG C a t ρ h).bind fun x h1 => match x with | .bl true => evG C b t ρ h1 | .bl false => .ok (.bl false) h1 | _ => .no := by
  rfl
@[simp] theorem g_or : evG C (.bor a b) t ρ h = (evG C a t ρ h).bind fun x h1 => match x with | .bl false => evG C b t ρ h1 | .bl true => .ok (.bl true) h1 | _ => .no := by
  rfl
@[simp] theorem g_cmp (op : CmpOp) : evG C (.cmp op a b) t ρ h = fin t ((evG C a false ρ h).bind fun x h1 => (evG C b false ρ h1).bind fun y h2 => cmpop op x y h2) := by rfl
@[simp] theorem g_ite : evG C (.ite c a b) t ρ h = fin t ((evG C c true ρ h).bind fun x h1 => match x with | .bl true => evG C a false ρ h1 | .bl false => evG C b false ρ h1 | _ => .no) := by
  rfl
@[simp] theorem g_tup (es : List E) : evG C (.tup es) t ρ h = fin t ((evGs C es ρ h).bind fun l h1 => tupO l h1) := by rfl
@[simp] theorem g_lst (es : List E) : evG C (.lst es) t ρ h = fin t ((evGs C es ρ h).bind fun l h1 => alloc l h1) := by rfl
@[simp] theorem g_idx : evG C (.idx a b) t ρ h = fin t ((evG C a false ρ h).bind fun x h1 => (evG C b false ρ h1).bind fun y h2 => idxop x y h2) := by rfl
@[simp] theorem g_slc (lo hi : Option E) : evG C (.slc a lo hi) t ρ h = fin t ((evG C a false ρ h).bind fun x h1 => (evGo C lo ρ h1).bind fun l h2 => (evGo C hi ρ h2).bind fun u h3 => slcop x l u h3) := by rfl
@[simp] theorem g_call (f : Nat) (es : List E) (ds : List PV) : evG C (.call f es ds) t ρ h = fin t ((evGs C es ρ h).bind fun l h1 => C f (l ++ ds) h1) := by rfl
@[simp] theorem g_bi (b : BI) (es : List E) : evG C (.bi b es) t ρ h = fin t ((evGs C es ρ h).bind fun l h1 => biF b l h1) := by rfl
@[simp] theorem g_mth (m : MT) (es : List E) : evG C (.mth m a es) t ρ h = fin t ((evG C a false ρ h).bind fun x h1 => if tyOf h1 x = some m.ty then (evGs C es ρ h1).bind fun l h2 => mtF m x l h2 else .no) := by rfl
theorem g_comp (tg : List Nat) (one : TgK) (k : ITK) (its : List E) (cond : Option E) (own : List Nat) : evG C (.comp a tg one k its cond own) t ρ h = fin t ((evGs C its ρ h).bind fun l h1 =>
      match walkF k l h1 with
      | some (items, kp) => (zav kp (fun x => zbp (wipeP ρ own) tg one x) (fun ρ1 h2 => (evGc C cond ρ1 h2).calm) (fun ρ1 h2 => (evG C a false ρ1 h2).calm) items [] h1).bind fun l h2 => alloc l h2
      | none => .no) := by rfl
@[simp] theorem gs_nil : evGs C [] ρ h = .ok [] h := by rfl
@[simp] theorem gs_cons (e : E) (es : List E) : evGs C (e :: es) ρ h = (evG C e false ρ h).bind fun x h1 => (evGs C es ρ h1).bind fun l h2 => .ok (x :: l) h2 := by rfl
@[simp] theorem go_none : evGo C none ρ h = .ok none h := by rfl
@[simp] theorem go_some : evGo C (some a) ρ h = (evG C a false ρ h).bind fun x h1 => match x with | .int i => .ok (some i) h1 | _ => .no := by rfl
@[simp] theorem gc_none : evGc C none ρ h = .ok true h := by rfl
@[simp] theorem gc_some : evGc C (some a) ρ h = asB (evG C a true ρ h) := by rfl
@[simp] theorem t_eq : evT C a ρ h = asB (evG C a true ρ h) := rfl
end
@[simp] theorem fin_f (m : R PV) : fin false m = m := rfl
@[simp] theorem sat_fin_t (m : R PV) (Q : PV → PH → Prop) : (fin true m).Sat Q = m.Sat fun v h => ∃ b, truthy h v = some b ∧ Q (.bl b) h := by
  cases m with
  | ok v h =>
    show (ofO ((truthy h v).map .bl) h).Sat Q = _
    rw [sat_ofO, zan]
    cases truthy h v <;> simp
  | ex x h => rfl
  | no => rfl
@[simp] theorem get0 (v : Option PV) (ρ : Env) : Env.get (v :: ρ) 0 = v := by cases v <;> rfl
@[simp] theorem getS (v : Option PV) (ρ : Env) (i : Nat) : Env.get (v :: ρ) (i + 1) = Env.get ρ i := by
  unfold Env.get
  simp
@[simp] theorem tru_bl (h : PH) (b : Bool) : truthy h (.bl b) = some b := rfl
@[simp] theorem tru_int (h : PH) (i : Int) : truthy h (.int i) = some (i != 0) := rfl
@[simp] theorem tru_non (h : PH) : truthy h .non = some false := rfl
@[simp] theorem tru_tup (h : PH) (l : List PV) : truthy h (.tup l) = some (!l.isEmpty) := rfl
theorem tru_ref {h : PH} {n : Nat} {l : List PV} (e : h[n]? = some (.lst l)) : truthy h (.ref n) = some (!l.isEmpty) := by simp only [truthy, e]
section
variable {C : Calls} {ρ : Env} {h : PH} {N : Env → PH → Prop} {T : PV → PH → Prop} {e : E} {s : S} {ss ss2 : List S}
@[simp] theorem x_nil : (exSs C [] ρ h).Sat N T = N ρ h := by simp only [exSs, ssat_nx]
theorem zad : (exSs C (s :: ss) ρ h).Sat N T = (exS C s ρ h).Sat (fun ρ1 h1 => (exSs C ss ρ1 h1).Sat N T) T := by simp only [exSs, ssat_seq]
@[simp] theorem x_one : (exSs C [s] ρ h).Sat N T = (exS C s ρ h).Sat N T := by simp only [zad, x_nil]
@[simp] theorem x_set (i : Nat) : (exS C (.asg (.nm i) e) ρ h).Sat N T = (evG C e false ρ h).Sat fun v h1 => N (ρ.set i (some v)) h1 := by simp only [exS, ssat_st, stTg, ssat_nx]
@[simp] theorem x_tup (is : List Nat) : (exS C (.asg (.tup is) e) ρ h).Sat N T = (evG C e false ρ h).Sat fun v h1 => match v with | .tup l => (∃ ρ', setAll ρ is l = some ρ' ∧ N ρ' h1) | _ => False := by
  simp only [exS, ssat_st]
  congr 1
  funext v h1
  cases v with
  | tup l =>
    simp only [stTg]
    cases setAll ρ is l <;> simp
  | _ => rfl
@[simp] theorem x_unl (is : List Nat) : (exS C (.asg (.unl is) e) ρ h).Sat N T = (evG C e false ρ h).Sat fun v h1 => match v with | .ref n => (∃ l ρ', h1[n]? = some (.lst l) ∧ setAll ρ is l = some ρ' ∧ N ρ' h1) | _ => False := by
  simp only [exS, ssat_st]
  congr 1
  funext v h1
  cases v with
  | ref n =>
    simp only [stTg]
    cases h1[n]? with
    | none => simp
    | some o =>
      cases o with
      | lst l => cases e : setAll ρ is l <;> simp [e]
      | dct l => simp
      | obj c l => simp
      | dtp l => simp
  | _ => rfl
@[simp] theorem x_sub (o i : E) : (exS C (.asg (.sub o i) e) ρ h).Sat N T = (evG C e false ρ h).Sat fun v h1 => (evG C o false ρ h1).Sat fun x h2 => (evG C i false ρ h2).Sat fun y h3 => ∃ h4, zbo x y v h3 = some h4 ∧ N ρ h4 := by
  simp only [exS, ssat_st, stTg]
  congr 1
  funext v h1
  congr 1
  funext x h2
  congr 1
  funext y h3
  cases zbo x y v h3 <;> simp
@[simp] theorem x_if (t : E) : (exS C (.ifs t ss ss2) ρ h).Sat N T = (evG C t true ρ h).Sat fun x h1 => match x with | .bl true => (exSs C ss ρ h1).Sat N T | .bl false => (exSs C ss2 ρ h1).Sat N T | _ => False := by
  simp only [exS, ssat_st, t_eq, sat_asB]
  congr 1
  funext x h1
  cases x with
  | bl k => cases k <;> rfl
  | _ => rfl
@[simp] theorem x_ret : (exS C (.ret e) ρ h).Sat N T = (evG C e false ρ h).Sat T := by simp only [exS, ssat_st, ssat_rt]
@[simp] theorem x_ex : (exS C (.ex e) ρ h).Sat N T = (evG C e false ρ h).Sat fun _ h1 => N ρ h1 := by simp only [exS, ssat_st, ssat_nx]
@[simp] theorem x_aug (i : Nat) (op : Operator) : (exS C (.aug i op e) ρ h).Sat N T = ∃ x, ρ.get i = some x ∧ (evG C e false ρ h).Sat fun y h1 => (iopF op x y h1).Sat fun z h2 => N (ρ.set i (some z)) h2 := by
  simp only [exS]
  cases ρ.get i with
  | none => simp
  | some x => simp
@[simp] theorem x_augs (o i : E) (op : Operator) : (exS C (.augs o i op e) ρ h).Sat N T = (evG C o false ρ h).Sat fun ov h1 => (evG C i false ρ h1).Sat fun iv h2 => (getL ov iv h2).Sat fun x h3 => (evG C e false ρ h3).Sat fun y h4 => (iopF op x y h4).Sat fun z h5 => ∃ h6, zbo ov iv z h5 = some h6 ∧ N ρ h6 := by
  simp only [exS, ssat_st]
  congr 1
  funext v h1
  congr 1
  funext x h2
  congr 1
  funext y h3
  congr 1
  funext y h3
  congr 1
  funext z h5
  cases zbo v x z h5 <;> simp
end
/-- a def -/
theorem zbn {C : Calls} {f : Fn} {vs : List PV} {h : PH} {Q : PV → PH → Prop} (hl : vs.length = f.np) (s : (exSs C f.body (zax f.ns vs) h).Sat (fun _ h => Q .non h) Q) : (runFn C f vs h).Sat Q := by
  unfold runFn
  rw [if_pos hl]
  generalize exSs C f.body (zax f.ns vs) h = m at s
  cases m with
  | nx ρ h => exact s
  | rt v h => exact s
  | bk _ _ => exact s
  | ct _ _ => exact s
  | ex _ _ _ => exact s
  | no => exact s
theorem zao (tbl : Nat → Fn) (k f : Nat) (vs : List PV) (h : PH) : call tbl (k + 1) f vs h = runFn (call tbl k) (tbl f) vs h := rfl
theorem whileN_sat {t : Env → PH → R Bool} {b : Env → PH → RS} {N : Env → PH → Prop} {T : PV → PH → Prop} (I : Nat → Env → PH → Prop)
    (hs : ∀ n ρ h, I n ρ h → (t ρ h).Sat fun c h1 => if c = true then (b ρ h1).Sat (fun ρ' h' => ∃ n', n' < n ∧ I n' ρ' h') T else N ρ h1) : ∀ (n m : Nat) (ρ : Env) (h : PH), n < m → I n ρ h → (whileF t b ρ h).Sat N T
  | n, 0, ρ, h, hm, _ => absurd hm (Nat.not_lt_zero _)
  | n, m + 1, ρ, h, hm, hi => by
    rw [whileF_eq, ssat_st]
    refine (hs n ρ h hi).imp fun c h1 q => ?_
    cases c with
    | false => exact q
    | true =>
      simp only [if_true] at q ⊢
      generalize b ρ h1 = r at q
      cases r with
      | nx ρ' h' =>
        obtain ⟨n', q1, q2⟩ := q
        exact whileN_sat I hs n' m ρ' h' (by omega) q2
      | rt v h' => exact q
      | bk _ _ => exact q.elim
      | ct _ _ => exact q.elim
      | ex _ _ _ => exact q.elim
      | no => exact q.elim
/-- a while, by an invariant with a number that falls -/
theorem x_whl {C : Calls} {e : E} {ss : List S} {ρ : Env} {h : PH} {N : Env → PH → Prop} {T : PV → PH → Prop} (I : Nat → Env → PH → Prop) (n : Nat) (hi : I n ρ h)
    (hs : ∀ n ρ h, I n ρ h → (evG C e true ρ h).Sat fun c h1 => match c with | .bl true => (exSs C ss ρ h1).Sat (fun ρ' h' => ∃ n', n' < n ∧ I n' ρ' h') T | .bl false => N ρ h1 | _ => False) : (exS C (.whl e ss) ρ h).Sat N T := by
  simp only [exS]
  refine whileN_sat I (fun n ρ h hi => ?_) n _ ρ h (Nat.lt_succ_self _) hi
  rw [t_eq, sat_asB]
  refine (hs n ρ h hi).imp fun c h1 q => ?_
  cases c with
  | bl k => cases k <;> simpa using q
  | _ => exact q
theorem for_sat {kp : Keep} {bind : Env → PV → Option Env} {b : Env → PH → RS} {N : Env → PH → Prop} {T : PV → PH → Prop} (I : Nat → Env → PH → Prop) : ∀ (items : List PV) (j : Nat) (ρ : Env) (h : PH), I j ρ h →
    (∀ (i : Nat) (x : PV) ρ h, items[i]? = some x → I (j + i) ρ h → zbf kp h ∧ ∃ ρ1, bind ρ x = some ρ1 ∧ (b ρ1 h).Sat (I (j + i + 1)) T) → (∀ ρ h, I (j + items.length) ρ h → zbf kp h ∧ N ρ h) → (forLoop kp bind b items ρ h).Sat N T
  | [], j, ρ, h, hi, _, hd => by
    obtain ⟨h1, h2⟩ := hd ρ h hi
    unfold forLoop
    rw [if_pos h1]
    exact h2
  | x :: xs, j, ρ, h, hi, hs, hd => by
    obtain ⟨h1, ρ1, h2, h3⟩ := hs 0 x ρ h rfl hi
    unfold forLoop
    rw [if_pos h1, h2]
    show ((b ρ1 h).turn _).Sat N T
    generalize b ρ1 h = r at h3
    have go : ∀ ρ' h', I (j + 1) ρ' h' → (forLoop kp bind b xs ρ' h').Sat N T := fun ρ' h' hi' => for_sat I xs (j + 1) ρ' h' hi' (fun i y ρ h e q => by
      have := hs (i + 1) y ρ h (by simpa using e)
      rw [show j + (i + 1) = j + 1 + i by omega] at this
      exact this q) (fun ρ h q => hd ρ h (by rw [List.length_cons, show j + (xs.length + 1) = j + 1 + xs.length by omega]; exact q))
    cases r with
    | nx ρ' h' => exact go ρ' h' h3
    | rt v h' => exact h3
    | bk _ _ => exact h3.elim
    | ct _ _ => exact h3.elim
    | ex _ _ _ => exact h3.elim
    | no => exact h3.elim
theorem x_for {C : Calls} {tg : List Nat} {one : TgK} {k : ITK} {its : List E} {ss : List S} {ρ : Env} {h : PH} {N : Env → PH → Prop} {T : PV → PH → Prop}
    (s : (evGs C its ρ h).Sat fun l h1 => ∃ items kp, walkF k l h1 = some (items, kp) ∧ ∃ I : Nat → Env → PH → Prop, I 0 ρ h1 ∧
      (∀ (i : Nat) (x : PV) ρ h, items[i]? = some x → I i ρ h → zbf kp h ∧ ∃ ρ1, zbp ρ tg one x = some ρ1 ∧ (exSs C ss ρ1 h).Sat (I (i + 1)) T) ∧ (∀ ρ h, I items.length ρ h → zbf kp h ∧ N ρ h)) : (exS C (.fr tg one k its ss) ρ h).Sat N T := by
  simp only [exS, ssat_st]
  refine s.imp fun l h1 ⟨items, kp, e, I, h0, hs, hd⟩ => ?_
  rw [e]
  refine for_sat I items 0 ρ h1 h0 (fun i x ρ h e q => ?_) fun ρ h q => hd ρ h (by simpa using q)
  have := hs i x ρ h e (by simpa using q)
  simpa using this
theorem comp_sat {kp : Keep} {bind : PV → Option Env} {t : Env → PH → R Bool} {e : Env → PH → R PV} {Q : List PV → PH → Prop} (I : Nat → List PV → PH → Prop) : ∀ (items : List PV) (j : Nat) (acc : List PV) (h : PH), I j acc h →
    (∀ (i : Nat) (x : PV) acc h, items[i]? = some x → I (j + i) acc h → zbf kp h ∧ ∃ ρ1, bind x = some ρ1 ∧ (t ρ1 h).Sat fun b h1 => if b = true then (e ρ1 h1).Sat fun v h2 => zaq (acc.length + 1) = true ∧ I (j + i + 1) (acc ++ [v]) h2 else I (j + i + 1) acc h1) →
    (∀ acc h, I (j + items.length) acc h → zbf kp h ∧ Q acc h) → (zav kp bind t e items acc h).Sat Q
  | [], j, acc, h, hi, _, hd => by
    obtain ⟨h1, h2⟩ := hd acc h hi
    unfold zav
    rw [if_pos h1]
    exact h2
  | x :: xs, j, acc, h, hi, hs, hd => by
    obtain ⟨h1, ρ1, h2, h3⟩ := hs 0 x acc h rfl hi
    unfold zav
    rw [if_pos h1, h2]
    show ((t ρ1 h).bind _).Sat Q
    rw [zai]
    have go : ∀ acc' h', I (j + 1) acc' h' → (zav kp bind t e xs acc' h').Sat Q := fun acc' h' hi' => comp_sat I xs (j + 1) acc' h' hi' (fun i y ρ h e q => by
      have := hs (i + 1) y ρ h (by simpa using e)
      rw [show j + (i + 1) = j + 1 + i by omega] at this
      exact this q) (fun ρ h q => hd ρ h (by rw [List.length_cons, show j + (xs.length + 1) = j + 1 + xs.length by omega]; exact q))
    refine h3.imp fun b h4 q => ?_
    cases b with
    | false => exact go acc h4 (by simpa using q)
    | true =>
      simp only [if_true] at q ⊢
      rw [zai]
      refine q.imp fun v h5 ⟨q1, q2⟩ => ?_
      rw [if_pos q1]
      exact go _ h5 q2
/-- a comprehension -/
theorem v_comp {C : Calls} {tg : List Nat} {one : TgK} {k : ITK} {its : List E} {cond : Option E} {own : List Nat} {a : E} {ρ : Env} {h : PH} {Q : PV → PH → Prop}
    (s : (evGs C its ρ h).Sat fun l h1 => ∃ items kp, walkF k l h1 = some (items, kp) ∧ ∃ I : Nat → List PV → PH → Prop, I 0 [] h1 ∧
      (∀ (i : Nat) (x : PV) acc h, items[i]? = some x → I i acc h → zbf kp h ∧ ∃ ρ1, zbp (wipeP ρ own) tg one x = some ρ1 ∧ (evGc C cond ρ1 h).Sat fun b h1 => if b = true then (evG C a false ρ1 h1).Sat fun v h2 => zaq (acc.length + 1) = true ∧ I (i + 1) (acc ++ [v]) h2 else I (i + 1) acc h1) ∧
      (∀ acc h, I items.length acc h → zbf kp h ∧ zaq acc.length = true ∧ Q (.ref h.length) (h ++ [.lst acc]))) : (evG C (.comp a tg one k its cond own) false ρ h).Sat Q := by
  rw [g_comp, fin_f, zai]
  refine s.imp fun l h1 ⟨items, kp, e, I, h0, hs, hd⟩ => ?_
  rw [e]
  show ((zav kp _ _ _ items [] h1).bind _).Sat Q
  rw [zai]
  refine comp_sat I items 0 [] h1 h0 (fun i x acc h e q => ?_) fun acc h q => ?_
  · obtain ⟨q1, ρ1, q2, q3⟩ := hs i x acc h e (by simpa using q)
    refine ⟨q1, ρ1, q2, ?_⟩
    rw [sat_calm]
    refine q3.imp fun b h2 q4 => ?_
    cases b with
    | false => simpa using q4
    | true => simpa using q4
  · obtain ⟨q1, q2, q3⟩ := hd acc h (by simpa using q)
    refine ⟨q1, ?_⟩
    unfold alloc
    rw [if_pos q2]
    exact q3
/-- .. where what is walked is known -/
theorem v_compE {C : Calls} {tg : List Nat} {one : TgK} {k : ITK} {its : List E} {cond : Option E} {own : List Nat} {a : E} {ρ : Env} {h h1 : PH} {Q : PV → PH → Prop} {l items : List PV} {kp : Keep} (e1 : evGs C its ρ h = .ok l h1) (e2 : walkF k l h1 = some (items, kp)) (I : Nat → List PV → PH → Prop) (h0 : I 0 [] h1)
    (hs : ∀ (i : Nat) (x : PV) acc h, items[i]? = some x → I i acc h → zbf kp h ∧ ∃ ρ1, zbp (wipeP ρ own) tg one x = some ρ1 ∧ (evGc C cond ρ1 h).Sat fun b h1 => if b = true then (evG C a false ρ1 h1).Sat fun v h2 => zaq (acc.length + 1) = true ∧ I (i + 1) (acc ++ [v]) h2 else I (i + 1) acc h1)
    (hd : ∀ acc h, I items.length acc h → zbf kp h ∧ zaq acc.length = true ∧ Q (.ref h.length) (h ++ [.lst acc])) : (evG C (.comp a tg one k its cond own) false ρ h).Sat Q :=
  v_comp (by rw [e1]; exact ⟨items, kp, e2, I, h0, hs, hd⟩)
theorem x_forE {C : Calls} {tg : List Nat} {one : TgK} {k : ITK} {its : List E} {ss : List S} {ρ : Env} {h h1 : PH} {N : Env → PH → Prop} {T : PV → PH → Prop} {l items : List PV} {kp : Keep} (e1 : evGs C its ρ h = .ok l h1) (e2 : walkF k l h1 = some (items, kp)) (I : Nat → Env → PH → Prop) (h0 : I 0 ρ h1)
    (hs : ∀ (i : Nat) (x : PV) ρ h, items[i]? = some x → I i ρ h → zbf kp h ∧ ∃ ρ1, zbp ρ tg one x = some ρ1 ∧ (exSs C ss ρ1 h).Sat (I (i + 1)) T) (hd : ∀ ρ h, I items.length ρ h → zbf kp h ∧ N ρ h) : (exS C (.fr tg one k its ss) ρ h).Sat N T :=
  x_for (by rw [e1]; exact ⟨items, kp, e2, I, h0, hs, hd⟩)
section
variable {h : PH} {i j : Int} {α : Type}
@[simp] theorem sat_ite (c : Prop) [Decidable c] (m n : R α) (Q : α → PH → Prop) : (if c then m else n).Sat Q = if c then m.Sat Q else n.Sat Q := by split <;> rfl
@[simp] theorem b_add : binop .Add (.int i) (.int j) h = .ok (.int (i + j)) h := rfl
@[simp] theorem b_sub : binop .Sub (.int i) (.int j) h = .ok (.int (i - j)) h := rfl
theorem b_mul (e : mulOk i j = true) : binop .Mult (.int i) (.int j) h = .ok (.int (i * j)) h := by
  show (if mulOk i j then _ else _) = _
  rw [if_pos e]
theorem b_fdiv (e : divOk j = true) : binop .FloorDiv (.int i) (.int j) h = .ok (.int (i.fdiv j)) h := by
  show (if divOk j then _ else _) = _
  rw [if_pos e]
theorem b_mod (e : j ≠ 0) : binop .Mod (.int i) (.int j) h = .ok (.int (i.fmod j)) h := by
  show (if j = 0 then _ else _) = _
  rw [if_neg e]
theorem b_pow (e : powOk i j = true) : binop .Pow (.int i) (.int j) h = .ok (.int (i ^ j.toNat)) h := by
  show (if powOk i j then _ else _) = _
  rw [if_pos e]
@[simp] theorem c_lt : cmpop .Lt (.int i) (.int j) h = .ok (.bl (decide (i < j))) h := rfl
@[simp] theorem c_le : cmpop .LtE (.int i) (.int j) h = .ok (.bl (decide (i ≤ j))) h := rfl
@[simp] theorem c_gt : cmpop .Gt (.int i) (.int j) h = .ok (.bl (decide (j < i))) h := rfl
@[simp] theorem c_ge : cmpop .GtE (.int i) (.int j) h = .ok (.bl (decide (j ≤ i))) h := rfl
@[simp] theorem c_eqI : cmpop .Eq (.int i) (.int j) h = .ok (.bl (decide (i = j))) h := by
  show ofO ((eqP h (.int i) (.int j)).map PV.bl) h = _
  have : eqP h (.int i) (.int j) = some (i == j) := by simp [eqP, pd, PyData.eqv]
  rw [this]
  show R.ok (PV.bl (i == j)) h = _
  rw [show (i == j) = decide (i = j) from by rw [Bool.eq_iff_iff]; simp]
@[simp] theorem c_neI : cmpop .NotEq (.int i) (.int j) h = .ok (.bl (!decide (i = j))) h := by
  show ofO ((eqP h (.int i) (.int j)).map fun b => PV.bl (!b)) h = _
  have : eqP h (.int i) (.int j) = some (i == j) := by simp [eqP, pd, PyData.eqv]
  rw [this]
  show R.ok (PV.bl (!(i == j))) h = _
  rw [show (i == j) = decide (i = j) from by rw [Bool.eq_iff_iff]; simp]
@[simp] theorem c_eqB (a b : Bool) : cmpop .Eq (.bl a) (.bl b) h = .ok (.bl (decide (a = b))) h := by cases a <;> cases b <;> rfl
@[simp] theorem c_neB (a b : Bool) : cmpop .NotEq (.bl a) (.bl b) h = .ok (.bl (!decide (a = b))) h := by cases a <;> cases b <;> rfl
@[simp] theorem c_eqS (a b : Str) : cmpop .Eq (.str a) (.str b) h = .ok (.bl (decide (a = b))) h := rfl
@[simp] theorem c_isN (a : PV) : cmpop .Is a .non h = .ok (.bl (isNonP a)) h := by cases a <;> rfl
@[simp] theorem c_isnN (a : PV) : cmpop .IsNot a .non h = .ok (.bl (!isNonP a)) h := by cases a <;> rfl
@[simp] theorem io_add : iopF .Add (.int i) (.int j) h = .ok (.int (i + j)) h := rfl
@[simp] theorem tupO_small (l : List PV) (e : l.length ≤ 1000000) : tupO l h = .ok (.tup l) h := by
  unfold tupO
  rw [if_pos (show zaq l.length = true from decide_eq_true e)]
theorem zap (l : List PV) (e : l.length ≤ 1000000) : alloc l h = .ok (.ref h.length) (h ++ [.lst l]) := by
  unfold alloc
  rw [if_pos (show zaq l.length = true from decide_eq_true e)]
theorem zbb {n : Nat} {l : List PV} {v : PV} (e : h[n]? = some (.lst l)) (e2 : L2.atI l i = some v) : idxop (.ref n) (.int i) h = .ok v h := by
  unfold idxop
  simp only [seqOf, e, e2, za6]
theorem at_nat {β : Type} {l : List β} {n : Nat} {v : β} (e : l[n]? = some v) : L2.atI l (n : Int) = some v := by
  unfold L2.atI L2.ixN
  have := (List.getElem?_eq_some_iff.mp e).1
  rw [if_pos (by omega), if_pos (by omega)]
  simpa using e
theorem at_pos {β : Type} {l : List β} {i : Int} {v : β} (h0 : 0 ≤ i) (e : l[i.toNat]? = some v) : L2.atI l i = some v := by
  have := at_nat (n := i.toNat) e
  rwa [Int.toNat_of_nonneg h0] at this
end
theorem fmod_pos {a b : Int} (h : 0 < b) : a.fmod b = a % b := Int.fmod_eq_emod_of_nonneg a (by omega)
theorem fdiv_pos {a b : Int} (h : 0 < b) : a.fdiv b = a / b := Int.fdiv_eq_ediv_of_nonneg a (by omega)
theorem log2_small {x : Int} {n : Nat} (h0 : 0 < n) (h : x.natAbs < 2 ^ n) : x.natAbs.log2 < n := PySem.Flt.log2_lt_of h0 h
theorem mul_ok {i j : Int} {a b : Nat} (ha : i.natAbs < 2 ^ a) (hb : j.natAbs < 2 ^ b) (h0 : 0 < a) (h1 : 0 < b) (h : a + b ≤ 1000000) : mulOk i j = true := by
  have x := log2_small h0 ha
  have y := log2_small h1 hb
  exact decide_eq_true (by omega)
theorem div_ok {j : Int} {b : Nat} (hj : j ≠ 0) (hb : j.natAbs < 2 ^ b) (h1 : 0 < b) (h : b ≤ 9000) : divOk j = true := by
  have y := log2_small h1 hb
  unfold divOk
  rw [decide_eq_true hj, decide_eq_true (show j.natAbs.log2 < 9000 by omega)]
  rfl
theorem zal {n : Nat} (h : n ≤ 1000000) : zaq n = true := decide_eq_true h
end Sb
namespace Sb
open PySem
def F_law_start : Fn := ⟨1, 3, [.asg (.nm 1) (.comp (.var 2) [2] .one .seq [(.var 0)] (some (.cmp .GtE (.var 2) (.bin .Pow (.lit (.int 10)) (.lit (.int 18))))) [2]),
  .ret (.lst [(.var 1), (.lit (.int 0)), (.comp (.bin .Mod (.var 2) (.lit (.int 2147483587))) [2] .one .seq [(.var 0)] none [2]), (.lit (.int 0))])]⟩
def F_law_mix : Fn := ⟨1, 4, [.augs (.var 0) (.lit (.int 3)) .Add (.lit (.int 1)),
  .asg (.nm 1) (.idx (.var 0) (.lit (.int 3))),
  .asg (.nm 2) (.lit (.int 11)),
  .ifs (.idx (.var 0) (.lit (.int 2))) [.asg (.nm 2) (.idx (.idx (.var 0) (.lit (.int 2))) (.bin .Mod (.var 1) (.bi .len [(.idx (.var 0) (.lit (.int 2)))])))] [],
  .asg (.nm 3) (.bin .Mod (.bin .Pow (.bin .Add (.bin .Add (.bin .Add (.var 2) (.bin .Mult (.bin .Mult (.lit (.int 769)) (.var 1)) (.var 1))) (.bin .Mult (.lit (.int 52361)) (.var 1))) (.lit (.int 23))) (.lit (.int 5))) (.lit (.int 2147483647))),
  .ret (.bin .Mod (.bin .Add (.bin .Mult (.var 3) (.lit (.int 48271))) (.bin .Mult (.lit (.int 6007)) (.var 1))) (.lit (.int 1000000007)))]⟩
def F_law_draw : Fn := ⟨2, 4, [.ifs (.band (.cmp .Eq (.idx (.var 0) (.lit (.int 1))) (.lit (.int 0))) (.idx (.var 0) (.lit (.int 0)))) [.asg (.sub (.var 0) (.lit (.int 1))) (.mth .popAt (.idx (.var 0) (.lit (.int 0))) [(.lit (.int 0))])] [],
  .ifs (.cmp .Gt (.idx (.var 0) (.lit (.int 1))) (.lit (.int 0))) [.asg (.nm 2) (.bin .Mod (.idx (.var 0) (.lit (.int 1))) (.var 1)),
  .asg (.sub (.var 0) (.lit (.int 1))) (.bin .FloorDiv (.idx (.var 0) (.lit (.int 1))) (.var 1)),
  .ret (.var 2)] [],
  .asg (.nm 2) (.lit (.int 0)),
  .asg (.nm 3) (.lit (.int 1)),
  .whl (.cmp .Lt (.var 3) (.var 1)) [.asg (.nm 2) (.bin .Add (.bin .Mult (.var 2) (.lit (.int 1000000007))) (.call 5 [(.var 0)] [])),
  .asg (.nm 3) (.bin .Mult (.var 3) (.lit (.int 1000000007)))],
  .ret (.bin .Mod (.var 2) (.var 1))]⟩
def F_law_same : Fn := ⟨2, 4, [.ifs (.bi .isinst [(.var 1), (.tup [(.lit (.ty .tuple)), (.lit (.ty .list))])]) [.ifs (.cmp .NotEq (.bi .isinst [(.var 0), (.lit (.ty .tuple))]) (.bi .isinst [(.var 1), (.lit (.ty .tuple))])) [.ret (.lit (.bl false))] [],
  .ifs (.bor (.cmp .NotEq (.bi .isinst [(.var 0), (.lit (.ty .list))]) (.bi .isinst [(.var 1), (.lit (.ty .list))])) (.cmp .NotEq (.bi .len [(.var 0)]) (.bi .len [(.var 1)]))) [.ret (.lit (.bl false))] [],
  .ret (.bi .all [(.comp (.call 7 [(.var 2), (.var 3)] []) [2, 3] .tup .zip [(.var 0), (.var 1)] none [2, 3])])] [],
  .ifs (.cmp .Is (.var 1) (.lit .non)) [.ret (.cmp .Is (.var 0) (.lit .non))] [],
  .ifs (.bi .isinst [(.var 1), (.lit (.ty .str))]) [.ret (.band (.bi .isinst [(.var 0), (.lit (.ty .str))]) (.cmp .Eq (.var 0) (.var 1)))] [],
  .ret (.band (.bi .isinst [(.var 0), (.lit (.ty .int))]) (.band (.cmp .Eq (.bi .isinst [(.var 0), (.lit (.ty .bool))]) (.bi .isinst [(.var 1), (.lit (.ty .bool))])) (.cmp .Eq (.var 0) (.var 1))))]⟩
def F_law_lowest : Fn := ⟨2, 4, [.asg (.nm 2) (.bi .abs [(.var 0)]),
  .asg (.nm 3) (.bi .abs [(.var 1)]),
  .whl (.cmp .Gt (.var 3) (.lit (.int 0))) [.asg (.tup [2, 3]) (.tup [(.var 3), (.bin .Mod (.var 2) (.var 3))])],
  .ifs (.cmp .Lt (.var 1) (.lit (.int 0))) [.asg (.nm 2) (.bin .Sub (.lit (.int 0)) (.var 2))] [],
  .ret (.tup [(.bin .FloorDiv (.var 0) (.var 2)), (.bin .FloorDiv (.var 1) (.var 2))])]⟩
def F_law_plus : Fn := ⟨2, 2, [.ret (.call 9 [(.bin .Add (.bin .Mult (.idx (.var 0) (.lit (.int 0))) (.idx (.var 1) (.lit (.int 1)))) (.bin .Mult (.idx (.var 1) (.lit (.int 0))) (.idx (.var 0) (.lit (.int 1))))), (.bin .Mult (.idx (.var 0) (.lit (.int 1))) (.idx (.var 1) (.lit (.int 1))))] [])]⟩
def F_law_times : Fn := ⟨2, 2, [.ret (.call 9 [(.bin .Mult (.idx (.var 0) (.lit (.int 0))) (.idx (.var 1) (.lit (.int 0)))), (.bin .Mult (.idx (.var 0) (.lit (.int 1))) (.idx (.var 1) (.lit (.int 1))))] [])]⟩
def F_law_led : Fn := ⟨2, 2, [.ret (.call 24 [(.call 25 [(.idx (.var 0) (.lit (.int 0))), (.var 1)] []), (.idx (.var 0) (.lit (.int 1)))] [])]⟩
def F_law_then : Fn := ⟨2, 2, [.ret (.tup [(.call 25 [(.idx (.var 1) (.lit (.int 0))), (.idx (.var 0) (.lit (.int 0)))] []), (.call 26 [(.var 1), (.idx (.var 0) (.lit (.int 1)))] [])])]⟩
def F_law_back : Fn := ⟨1, 2, [.asg (.nm 1) (.call 9 [(.idx (.idx (.var 0) (.lit (.int 0))) (.lit (.int 1))), (.idx (.idx (.var 0) (.lit (.int 0))) (.lit (.int 0)))] []),
  .ret (.tup [(.var 1), (.call 25 [(.var 1), (.tup [(.bin .Sub (.lit (.int 0)) (.idx (.idx (.var 0) (.lit (.int 1))) (.lit (.int 0)))), (.idx (.idx (.var 0) (.lit (.int 1))) (.lit (.int 1)))])] [])])]⟩
def F_in_order : Fn := ⟨1, 1, [.ret (.srt (.var 0))]⟩
def F_tie_rows : Fn := ⟨1, 8, [.asg (.nm 1) (.dct []),
  .asg (.nm 2) (.lst []),
  .fr [3] .one .seq [(.call 32 [(.var 0)] [])] [.asg (.nm 4) (.mth .setd (.var 1) [(.idx (.var 3) (.lit (.int 1))), (.idx (.var 3) (.lit (.int 1)))]),
  .asg (.nm 5) (.mth .setd (.var 1) [(.idx (.var 3) (.lit (.int 2))), (.idx (.var 3) (.lit (.int 2)))]),
  .ifs (.cmp .NotEq (.var 4) (.var 5)) [.asg (.nm 1) (.remark 1 4 5),
  .ex (.mth .append (.var 2) [(.var 3)])] []],
  .ret (.var 2)]⟩
def F_steps_from : Fn := ⟨2, 7, [.asg (.nm 2) (.lst []),
  .fr [3, 4, 5, 6] .star .seq [(.var 0)] [.ifs (.cmp .Eq (.var 4) (.var 1)) [.ex (.mth .append (.var 2) [(.tup [(.tup [(.var 3), (.lit (.bl true))]), (.var 5)])])] [],
  .ifs (.cmp .Eq (.var 5) (.var 1)) [.ex (.mth .append (.var 2) [(.tup [(.tup [(.var 3), (.lit (.bl false))]), (.var 4)])])] []],
  .ret (.var 2)]⟩
def F_roads_among : Fn := ⟨2, 7, [.asg (.nm 2) (.dct [(.var 1), (.lst [])]),
  .asg (.nm 3) (.lst [(.var 1)]),
  .whl (.cmp .Gt (.bi .len [(.var 3)]) (.lit (.int 0))) [.asg (.nm 4) (.mth .popAt (.var 3) [(.lit (.int 0))]),
  .fr [5, 6] .tup .seq [(.call 40 [(.var 0), (.var 4)] [])] [.ifs (.cmp .NotIn (.var 6) (.var 2)) [.asg (.sub (.var 2) (.var 6)) (.bin .Add (.idx (.var 2) (.var 4)) (.lst [(.var 5)])),
  .ex (.mth .append (.var 3) [(.var 6)])] []]],
  .ret (.var 2)]⟩
def F_road_among : Fn := ⟨3, 3, [.ret (.mth .get1 (.call 41 [(.var 0), (.var 1)] []) [(.var 2)])]⟩
def F_road_of : Fn := ⟨3, 4, [.asg (.nm 3) (.call 42 [(.call 39 [(.var 0)] []), (.var 1), (.var 2)] []),
  .ifs (.cmp .Is (.var 3) (.lit .non)) [.raise "NotJoined" ["end", "start"] [(.var 1), (.var 2)]] [],
  .ret (.var 3)]⟩
def F_chain_move : Fn := ⟨2, 7, [.asg (.nm 2) (.dcomp (.idx (.var 6) (.lit (.int 0))) (.idx (.var 6) (.lit (.int 3))) [6] .one .seq [(.var 0)] none [6]),
  .asg (.nm 3) (.lit (.tup [(.tup [(.int 1), (.int 1)]), (.tup [(.int 0), (.int 1)])])),
  .fr [4, 5] .tup .seq [(.var 1)] [.asg (.nm 3) (.call 22 [(.var 3), (.ite (.var 5) (.idx (.var 2) (.var 4)) (.call 23 [(.idx (.var 2) (.var 4))] []))] [])],
  .ret (.var 3)]⟩
def F_move_of : Fn := ⟨3, 3, [.ret (.call 44 [(.var 0), (.call 43 [(.var 0), (.var 1), (.var 2)] [])] [])]⟩
def F_law_part_2 : Fn := ⟨1, 2, [.asg (.nm 1) (.idx (.lst [(.lit (.int 4)), (.lit (.int 9)), (.bin .Sub (.bin .Pow (.lit (.int 10)) (.lit (.int 12))) (.lit (.int 1)))]) (.call 6 [(.var 0), (.lit (.int 3))] [])),
  .ret (.call 9 [(.bin .Sub (.call 6 [(.var 0), (.bin .Add (.bin .Mult (.lit (.int 2)) (.var 1)) (.lit (.int 1)))] []) (.var 1)), (.bin .Add (.lit (.int 1)) (.call 6 [(.var 0), (.var 1)] []))] [])]⟩
def F_law_lists : Fn := ⟨1, 7, [.asg (.nm 1) (.lst [(.lit (.str "a")), (.lit (.str "b")), (.lit (.str "ab")), (.lit (.str "zz")), (.lit (.str "abcdefgh"))]),
  .asg (.nm 2) (.comp (.idx (.var 1) (.call 6 [(.var 0), (.lit (.int 5))] [])) [5] .one .range [(.call 6 [(.var 0), (.lit (.int 5))] [])] none [5]),
  .asg (.nm 3) (.comp (.idx (.var 1) (.call 6 [(.var 0), (.lit (.int 5))] [])) [5] .one .range [(.call 6 [(.var 0), (.lit (.int 5))] [])] none [5]),
  .asg (.nm 4) (.lst []),
  .fr [5] .one .range [(.call 6 [(.var 0), (.lit (.int 4))] [])] [.asg (.nm 6) (.tup [(.call 166 [(.var 0)] []), (.call 166 [(.var 0)] [])]),
  .ex (.mth .append (.var 4) [(.tup [(.idx (.var 1) (.call 6 [(.var 0), (.lit (.int 5))] [])), (.idx (.lst [(.var 6), (.lit .non)]) (.bi .int1 [(.cmp .Eq (.call 6 [(.var 0), (.lit (.int 3))] []) (.lit (.int 0)))]))])])],
  .ret (.lst [(.var 2), (.var 3), (.var 4)])]⟩
def F_News_init : Fn := ⟨4, 4, [.asg (.fld "News" "came" (.var 0)) (.bi .listOf [(.var 1)]),
  .asg (.fld "News" "went" (.var 0)) (.bi .listOf [(.var 2)]),
  .asg (.fld "News" "heard" (.var 0)) (.bi .listOf [(.var 3)])]⟩
def F_News_len : Fn := ⟨1, 1, [.ret (.bi .len [(.bin .Add (.bin .Add (.fld "News" "came" (.var 0)) (.fld "News" "went" (.var 0))) (.fld "News" "heard" (.var 0)))])]⟩
def F_number_written : Fn := ⟨1, 3, [.asg (.tup [1, 2]) (.var 0),
  .ret (.ite (.cmp .Eq (.var 2) (.lit (.int 1))) (.bi .str1 [(.var 1)]) (.bin .Add (.bin .Add (.bi .str1 [(.var 1)]) (.lit (.str "/"))) (.bi .str1 [(.var 2)])))]⟩
def F_move_text : Fn := ⟨2, 3, [.ret (.mth .join (.var 1) [(.comp (.call 453 [(.var 2)] []) [2] .one .seq [(.var 0)] none [2])])]⟩
def F_heard_text : Fn := ⟨2, 2, [.ret (.bin .Add (.bin .Add (.var 0) (.lit (.str "="))) (.ite (.cmp .Is (.var 1) (.lit .non)) (.lit (.str "none")) (.call 454 [(.var 1), (.lit (.str ","))] [])))]⟩
def F_News_str : Fn := ⟨1, 4, [.asg (.nm 1) (.bin .Add (.comp (.bin .Add (.lit (.str "+")) (.var 2)) [2] .one .seq [(.fld "News" "came" (.var 0))] none [2]) (.comp (.bin .Add (.lit (.str "-")) (.var 2)) [2] .one .seq [(.fld "News" "went" (.var 0))] none [2])),
  .ret (.mth .join (.lit (.str " ")) [(.bin .Add (.var 1) (.comp (.call 455 [(.var 2), (.var 3)] []) [2, 3] .tup .seq [(.fld "News" "heard" (.var 0))] none [2, 3]))])]⟩
def F_law_number_3 : Fn := ⟨1, 1, [.ret (.bin .Add (.bi .str1 [(.idx (.var 0) (.lit (.int 0)))]) (.bin .Mult (.bin .Add (.lit (.str "/")) (.bi .str1 [(.idx (.var 0) (.lit (.int 1)))])) (.bi .int1 [(.cmp .NotEq (.idx (.var 0) (.lit (.int 1))) (.lit (.int 1)))])))]⟩
def F_law_text : Fn := ⟨1, 4, [.asg (.nm 1) (.bin .Add (.comp (.bin .Add (.lit (.str "+")) (.var 2)) [2] .one .seq [(.idx (.var 0) (.lit (.int 0)))] none [2]) (.comp (.bin .Add (.lit (.str "-")) (.var 2)) [2] .one .seq [(.idx (.var 0) (.lit (.int 1)))] none [2])),
  .fr [2, 3] .tup .seq [(.idx (.var 0) (.lit (.int 2)))] [.ex (.mth .append (.var 1) [(.bin .Add (.bin .Add (.var 2) (.lit (.str "="))) (.ite (.cmp .Is (.var 3) (.lit .non)) (.lit (.str "none")) (.bin .Add (.bin .Add (.call 457 [(.idx (.var 3) (.lit (.int 0)))] []) (.lit (.str ","))) (.call 457 [(.idx (.var 3) (.lit (.int 1)))] []))))])],
  .ret (.mth .join (.lit (.str " ")) [(.var 1)])]⟩
def F_law_bent_2 : Fn := ⟨2, 6, [.asg (.nm 2) (.comp (.bi .listOf [(.var 5)]) [5] .one .seq [(.var 1)] none [5]),
  .asg (.nm 3) (.call 6 [(.var 0), (.lit (.int 3))] []),
  .asg (.nm 4) (.call 6 [(.var 0), (.lit (.int 6))] []),
  .ifs (.cmp .Eq (.var 4) (.lit (.int 0))) [.ex (.mth .append (.idx (.var 2) (.var 3)) [(.idx (.lst [(.lit (.str "a")), (.lit (.str "a")), (.tup [(.lit (.str "a")), (.lit .non)])]) (.var 3))])] [],
  .ifs (.band (.cmp .Eq (.var 4) (.lit (.int 1))) (.idx (.var 2) (.var 3))) [.ex (.mth .popAt (.idx (.var 2) (.var 3)) [(.call 6 [(.var 0), (.bi .len [(.idx (.var 2) (.var 3))])] [])])] [],
  .ifs (.cmp .Eq (.var 4) (.lit (.int 2))) [.asg (.sub2 (.var 2) (.lit (.int 0)) (.var 2) (.lit (.int 1))) (.tup [(.idx (.var 2) (.lit (.int 1))), (.idx (.var 2) (.lit (.int 0)))])] [],
  .ifs (.cmp .Eq (.var 4) (.lit (.int 3))) [.asg (.sub (.var 2) (.var 3)) (.rev (.idx (.var 2) (.var 3)))] [],
  .ifs (.band (.cmp .Eq (.var 4) (.lit (.int 4))) (.idx (.var 2) (.lit (.int 2)))) [.asg (.sub (.idx (.var 2) (.lit (.int 2))) (.lit (.int 0))) (.tup [(.idx (.idx (.idx (.var 2) (.lit (.int 2))) (.lit (.int 0))) (.lit (.int 0))), (.tup [(.tup [(.lit (.int 1)), (.lit (.int 1))]), (.tup [(.call 6 [(.var 0), (.lit (.int 3))] []), (.lit (.int 1))])])])] [],
  .ret (.var 2)]⟩
def F_News_eq : Fn := ⟨2, 2, [.ifs (.nt (.bi .isC [(.var 1), (.lit (.cls "News"))])) [.ret (.lit (.bl false))] [],
  .ret (.band (.cmp .Eq (.fld "News" "came" (.var 0)) (.fld "News" "came" (.var 1))) (.band (.cmp .Eq (.fld "News" "went" (.var 0)) (.fld "News" "went" (.var 1))) (.cmp .Eq (.fld "News" "heard" (.var 0)) (.fld "News" "heard" (.var 1)))))]⟩
def F_law_51 : Fn := ⟨1, 9, [.asg (.nm 1) (.call 4 [(.var 0)] []),
  .asg (.nm 2) (.call 167 [(.var 1)] []),
  .asg (.nm 3) (.comp (.bi .listOf [(.var 5)]) [5] .one .seq [(.var 2)] none [5]),
  .asg (.nm 4) (.make "News" 211 [(.idx (.var 3) (.lit (.int 0))), (.idx (.var 3) (.lit (.int 1))), (.idx (.var 3) (.lit (.int 2)))] []),
  .ifs (.cmp .Eq (.call 6 [(.var 1), (.lit (.int 2))] []) (.lit (.int 1))) [.asg (.nm 4) (.make "News" 211 [(.bi .tupleOf [(.idx (.var 3) (.lit (.int 0)))]), (.bi .tupleOf [(.idx (.var 3) (.lit (.int 1)))]), (.bi .tupleOf [(.idx (.var 3) (.lit (.int 2)))])] [])] [],
  .fr [5] .one .seq [(.var 3)] [.ex (.mth .append (.var 5) [(.lit (.str "more"))])],
  .ifs (.nt (.call 7 [(.lst [(.fld "News" "came" (.var 4)), (.fld "News" "went" (.var 4)), (.fld "News" "heard" (.var 4))]), (.var 2)] [])) [.ret (.lit (.bl false))] [],
  .ifs (.bor (.nt (.call 7 [(.bi .lenR [.meth "News" "__len__" 452 (.var 4) [] []]), (.bi .sum [(.comp (.bi .len [(.var 5)]) [5] .one .seq [(.var 2)] none [5])])] [])) (.nt (.call 7 [(.bi .strR [.meth "News" "__str__" 456 (.var 4) [] []]), (.call 458 [(.var 2)] [])] []))) [.ret (.lit (.bl false))] [],
  .asg (.nm 6) (.call 459 [(.var 1), (.var 2)] []),
  .asg (.nm 7) (.make "News" 211 [(.idx (.var 6) (.lit (.int 0))), (.idx (.var 6) (.lit (.int 1))), (.idx (.var 6) (.lit (.int 2)))] []),
  .asg (.nm 8) (.cmp .Eq (.var 6) (.var 2)),
  .ifs (.bor (.cmp .NotEq (.oeq "News" 460 false (.var 4) (.var 7)) (.var 8)) (.bor (.cmp .Eq (.oeq "News" 460 true (.var 4) (.var 7)) (.var 8)) (.cmp .NotEq (.oeq "News" 460 false (.var 7) (.var 4)) (.var 8)))) [.ret (.lit (.bl false))] [],
  .ifs (.bor (.oeq "News" 460 false (.var 4) (.var 2)) (.bor (.oeq "News" 460 false (.var 4) (.bi .tupleOf [(.var 2)])) (.bor (.oeq "News" 460 false (.var 4) (.bi .strR [.meth "News" "__str__" 456 (.var 4) [] []])) (.bor (.oeq "News" 460 false (.var 4) (.lit .non)) (.oeq "News" 460 false (.var 4) (.bi .lenR [.meth "News" "__len__" 452 (.var 4) [] []])))))) [.ret (.lit (.bl false))] [],
  .ret (.oeq "News" 460 false (.var 4) (.make "News" 211 [(.idx (.var 2) (.lit (.int 0))), (.idx (.var 2) (.lit (.int 1))), (.idx (.var 2) (.lit (.int 2)))] []))]⟩
end Sb
namespace Sb
def tbl : Nat → Fn
  | 453 => F_number_written
  | 454 => F_move_text
  | 455 => F_heard_text
  | 4 => F_law_start
  | 6 => F_law_draw
  | 5 => F_law_mix
  | 7 => F_law_same
  | 9 => F_law_lowest
  | 166 => F_law_part_2
  | 167 => F_law_lists
  | 457 => F_law_number_3
  | 458 => F_law_text
  | 459 => F_law_bent_2
  | 461 => F_law_51
  | 211 => F_News_init
  | 460 => F_News_eq
  | 452 => F_News_len
  | 456 => F_News_str
  | _ => ⟨0, 0, []⟩
end Sb
namespace Sb
open PySem PySem.Spec PyProof.Rows L2
/-- the order -/
theorem leTel_trans (a b c : Int × Str) (h1 : leTel a b = true) (h2 : leTel b c = true) : leTel a c = true := by
  unfold leTel at *
  simp only [Bool.or_eq_true, Bool.and_eq_true, decide_eq_true_eq] at *
  rcases h1 with h1 | ⟨h1, h1'⟩ <;> rcases h2 with h2 | ⟨h2, h2'⟩
  · exact .inl (by omega)
  · exact .inl (by omega)
  · exact .inl (by omega)
  · exact .inr ⟨by omega, leStr_trans _ _ _ h1' h2'⟩
theorem leTel_total (a b : Int × Str) : (leTel a b || leTel b a) = true := by
  unfold leTel
  simp only [Bool.or_eq_true, Bool.and_eq_true, decide_eq_true_eq]
  have := leStr_total a.2 b.2
  rw [Bool.or_eq_true] at this
  rcases Int.lt_trichotomy a.1 b.1 with z | z | z
  · exact .inr (.inl z)
  · rcases this with t | t
    · exact .inl (.inr ⟨z, t⟩)
    · exact .inr (.inr ⟨z.symm, t⟩)
  · exact .inl (.inl z)
theorem leTel_anti {a b : Int × Str} (h1 : leTel a b = true) (h2 : leTel b a = true) : a = b := by
  unfold leTel at *
  simp only [Bool.or_eq_true, Bool.and_eq_true, decide_eq_true_eq] at *
  rcases h1 with h1 | ⟨h1, h1'⟩ <;> rcases h2 with h2 | ⟨h2, h2'⟩
  · omega
  · omega
  · omega
  · exact Prod.ext h1 (leStr_anti h1' h2')
end Sb
namespace Sb
open PySem PySem.Spec PyProof.Rows L2
/-- nothing but tables and locked lists -/
def OnlyT (H : Hp) : Prop := ∀ b, H b = none ∨ (∃ ps, H b = some (.tbl ps)) ∨ ∃ o xs, H b = some (.frz o (.lst xs))
section
variable {P : Program} {w : World} {K : PySem.W.Frag} {mg mb : Str → Option Value} {CX : CXT} {k : Nat} {fa a : Addr} {cs : List (Addr × Addr)} {fd : FuncData} {x : Str} {sp : Sp} {s₁ : Shared} {vs : List Value} {ns : List Int}
theorem law_callT (KX : K.In s₁.heap) (hns : s₁.heap.Ns mainGlobals mg) (hb : s₁.heap.Ns builtinsNs mb) (hbb : ∀ x : Str, x ≠ "__name__" → mb x = bootBuiltins x) (hlim : s₁.heap.NoLimit) (hg : s₁.gens = #[])
    (hT : ∀ p ∈ cs, s₁.heap.get? p.2 = some (PySem.W.tabObj #[])) (nT : ∀ p ∈ cs, K.lookup p.2 = none) (cd : ∀ p ∈ cs, PySem.W.CodeHd s₁.heap p.1 p.2)
    (hbm : ∃ (bm : Addr) (ob : Obj), mg "__builtins__" = some (.ref bm) ∧ bm ≠ builtinsNs ∧ s₁.heap.get? bm = some ob ∧ ob.cls = .type "module" ∧ ob.dict = some builtinsNs ∧ ob.data = .plain)
    (ha : s₁.heap.get? a = some { cls := .type "list", data := .seq vs.toArray }) (hi : IntsAre vs ns) (hl : ns.length ≤ sizeLine) (hr : Room k callerA)
    (F : ∀ base : Heap, K.In base → base.Ns mainGlobals mg → (∀ p ∈ cs, LamX.TabB base mg p.1 p.2) → FnOk P w K mg base CX k fa fd [x] sp) (hbind : ∀ (s : Shared) (u : Value), BindsTo s fd ⟨[u], []⟩ [(x, u)])
    (hsp : ∀ H : Hp, OnlyT H → (∀ p ∈ cs, H p.2 = some (.tbl #[])) → SqL K H a (ns.map V.int) → sp [.ref a] H (fun v _ => v = .bl true) fun _ _ _ => False)
    (hCX : ∀ H e s', CX [] H s₁ (fun _ _ _ => False) e s' → False) :
    codeAny (model P w) callerA (.call (.ref fa) ⟨[.ref a], []⟩) (fun r s' => r = .ok (.ret (.bool true)) ∧ OldK s₁.heap s'.heap ∧ s'.os = s₁.os ∧ AllBare s'.gens) s₁ := by
  have rv := vals_ints hi
  have lenV := hi.length
  obtain ⟨T, eT⟩ : ∃ T, T = cs.map (·.2) := ⟨_, rfl⟩
  have memT : ∀ p ∈ cs, p.2 ∈ T := fun p hp => by rw [eT]; exact List.mem_map.mpr ⟨p, hp, rfl⟩
  have ofT : ∀ b ∈ T, ∃ p ∈ cs, p.2 = b := fun b hb => by
    rw [eT] at hb
    exact List.mem_map.mp hb
  have isT : ∀ b ∈ T, s₁.heap.get? b = some (PySem.W.tabObj #[]) := fun b hb => by
    obtain ⟨p, hp, rfl⟩ := ofT b hb
    exact hT p hp
  have aT : a ∉ T := fun z => by
    have q := isT a z
    rw [ha] at q
    cases q
  obtain ⟨H, hH⟩ : ∃ H : Hp, H = fun b => if b ∈ T then some (.tbl #[]) else if b = a ∧ K.lookup a = none then some (.frz { cls := .type "list", data := .seq vs.toArray } (.lst (ns.map V.int))) else none := ⟨_, rfl⟩
  have hHT : ∀ b ∈ T, H b = some (.tbl #[]) := fun b hb => by rw [hH]; exact if_pos hb
  have hHa : K.lookup a = none → H a = some (.frz { cls := .type "list", data := .seq vs.toArray } (.lst (ns.map V.int))) := fun e => by
    rw [hH]
    show (if a ∈ T then _ else _) = _
    rw [if_neg aT, if_pos ⟨rfl, e⟩]
  have hHn : ∀ b, b ∉ T → ¬ (b = a ∧ K.lookup a = none) → H b = none := fun b h1 h2 => by
    rw [hH]
    show (if b ∈ T then _ else _) = _
    rw [if_neg h1, if_neg h2]
  have hO : OnlyT H := fun b => by
    by_cases h1 : b ∈ T
    · exact .inr (.inl ⟨_, hHT b h1⟩)
    · by_cases h2 : b = a ∧ K.lookup a = none
      · exact .inr (.inr ⟨_, _, by rw [h2.1]; exact hHa h2.2⟩)
      · exact .inl (hHn b h1 h2)
  have hok : HOk P w H s₁.heap := fun b u e => by
    by_cases h1 : b ∈ T
    · rw [hHT b h1] at e
      cases e
      exact isT b h1
    · by_cases h2 : b = a ∧ K.lookup a = none
      · obtain ⟨rfl, h2⟩ := h2
        rw [hHa h2] at e
        cases e
        exact ⟨ha, by rw [List.length_map]; exact hl, vs, _, rv, ha⟩
      · rw [hHn b h1 h2] at e
        cases e
  have hS : SqL K H a (ns.map V.int) := by
    cases hk : K.lookup a with
    | none => exact .inl (.inr ⟨_, hHa hk⟩)
    | some o =>
      have e := KX a o hk
      rw [ha] at e
      cases e
      exact .inr ⟨_, vs.toArray, _, hk, rfl, rfl, rfl, by rw [List.size_toArray, lenV]; exact hl, by simpa using rv⟩
  have free : ∀ {b : Addr} {o : Obj}, s₁.heap.get? b = some o → (∀ vs n, o.data ≠ .seq vs n) → o.data ≠ .fields #[] → H b = none := fun {b o} e n1 n2 => by
    refine hHn b (fun z => ?_) fun z => ?_
    · rw [isT b z] at e
      cases e
      exact n2 rfl
    · rw [z.1, ha] at e
      cases e
      exact n1 _ _ rfl
  have freeD : ∀ {b : Addr} {o : Obj} {es : Array DictEntry} {ep : Nat}, s₁.heap.get? b = some o → o.data = .dict es ep → H b = none := fun {b o es ep} e d => by
    refine free e (fun vs n z => ?_) fun z => ?_
    · rw [d] at z; cases z
    · rw [d] at z; cases z
  have nsK : ∀ {b : Addr} {m : Str → Option Value}, s₁.heap.Ns b m → (hidT s₁.heap H).Ns b m := fun {b m} ⟨o, es, ep, e, d, r⟩ => ⟨o, es, ep, hidT_get e (freeD e d), d, r⟩
  have hKb : K.In (hidT s₁.heap H) := fun b o e => hidT_get (KX b o e) (hHn b (fun z => by
    obtain ⟨p, hp, rfl⟩ := ofT b z
    rw [nT p hp] at e
    cases e) fun z => by
    rw [z.1, z.2] at e
    cases e)
  have hM : L2.Mod K mg (hidT s₁.heap H) := ⟨hKb, nsK hns, ⟨mb, nsK hb, hbb⟩, let ⟨mc, h1, h2⟩ := hlim; ⟨mc, nsK h1, h2⟩⟩
  have TB : ∀ p ∈ cs, LamX.TabB (hidT s₁.heap H) mg p.1 p.2 := fun p hp => by
    have hTp := hT p hp
    obtain ⟨go, ges, gep, ge, gd, _⟩ := id hns
    refine ⟨?_, ?_, fun z => ?_⟩
    · obtain ⟨o, us, file, tf, flags, tg, inF, text, tt, c1, c2, c3, c4, c5⟩ := cd p hp
      refine ⟨o, us, file, tf, flags, tg, inF, text, tt, hidT_get c1 (free c1 (fun vs n z => ?_) fun z => ?_), c2, c3, c4, c5⟩
      · rw [c3] at z; cases z
      · rw [c3] at z
        cases z
        simp at c4
    · obtain ⟨bm, ob, b1, b2, b3, b4, b5, b6⟩ := hbm
      refine ⟨bm, ob, b1, b2, fun q => ?_, fun q => ?_, hidT_get b3 (free b3 (fun vs n z => ?_) fun z => ?_), b4, b5, b6⟩
      · rw [q, ge] at b3
        cases b3
        rw [gd] at b6
        cases b6
      · rw [q, hTp] at b3
        cases b3
        cases b6
      · rw [b6] at z; cases z
      · rw [b6] at z; cases z
    · rw [z, hTp] at ge
      cases ge
      cases gd
  have e0 : Env0 P w K mg (hidT s₁.heap H) callerA [] s₁ H := ⟨rfl, hM, fun b o e => of_hidT e, Nat.le_of_eq (hidT_size _ _), trivial, fun b hb => absurd (show b ∈ ([] : List Addr) from hb) (by simp), hok, .of_eq hg⟩
  refine codeAny_mono ((F _ hKb (nsK hns) TB).run callerA [] s₁ H ⟨[.ref a], []⟩ [.ref a] [.ref a] _ _ hr e0 (hbind s₁ (.ref a)) (.cons rfl .nil) (hsp H hO (fun p hp => hHT _ (memT p hp)) hS)) fun r s' h => ?_
  cases r with
  | error e => exact (hCX H e s' h).elim
  | ok fl =>
    cases fl with
    | next => exact False.elim h
    | brk => exact False.elim h
    | cont => exact False.elim h
    | ret u =>
      obtain ⟨v, H', os, bare, un, hok', r', q⟩ := h
      have q' : v = .bl true := q
      subst q'
      obtain rfl : u = Value.bool true := r'
      have same : ∀ b o, b ∉ T → s₁.heap.get? b = some o → s'.heap.get? b = some o := fun b o nb e => by
        rcases hO b with z | ⟨ps, z⟩ | ⟨ob, xs, z⟩
        · exact un.keep b o e z (fun y => nomatch (show b ∈ ([] : List Addr) from y)) (fun y => nomatch y)
        · exfalso
          by_cases h2 : b = a ∧ K.lookup a = none
          · rw [h2.1, hHa h2.2] at z
            cases z
          · rw [hHn b nb h2] at z
            cases z
        · obtain ⟨e1, _⟩ := hok b _ z
          obtain ⟨e2, _⟩ := hok' b _ (un.frzs b ob _ z)
          rw [e] at e1
          cases e1
          exact e2
      have grown : ∀ p ∈ cs, ∃ more : Array Value, s'.heap.get? p.2 = some (PySem.W.tabObj more) := fun p hp => by
        obtain ⟨more, z⟩ := un.tbls p.2 #[] (hHT _ (memT p hp))
        exact ⟨_, hok' p.2 _ z⟩
      refine ⟨rfl, ⟨fun b o e => ?_, fun b o e => ?_⟩, os, bare⟩
      · by_cases nb : b ∈ T
        · obtain ⟨p, hp, rfl⟩ := ofT b nb
          obtain ⟨more, hm⟩ := grown p hp
          rw [hT p hp] at e
          cases e
          exact .inr (.inl ⟨((cd p hp).tab (hT p hp)).isCodeTable, rfl, #[], more, rfl, by rw [Array.empty_append]; exact hm⟩)
        · exact .inl (same b o nb e)
      · by_cases nb : b ∈ T
        · obtain ⟨p, hp, rfl⟩ := ofT b nb
          obtain ⟨more, hm⟩ := grown p hp
          exact ⟨_, hm⟩
        · exact ⟨o, same b o nb e⟩
end
/-- a law's end: F gives the written part, the tables and the law's promise -/
theorem walk_ofT {l : PySem.W.OpenLaw} {n k : Nat} {q : Program} {loose : List Str} {XP : (Str → Option Value) → Heap → Prop} {YP : World → Heap → Prop} {d : DefRec} {x : Str}
    (hn : l.most = some n) (hn2 : n ≤ sizeLine) (hdf : d.params.defaults = []) (hr : Room k callerA)
    (F : ∀ (w : World) (mg mb : Str → Option Value) (mean : ExcName → Option Value) (fa : Addr) (h : Heap), YP w h → PyProof.Rows.Top q (PySem.W.looseW q loose) mean mg mb h → mg d.name = some (.ref fa) →
      ∃ (K : PySem.W.Frag) (fd : FuncData) (sp : Sp) (cs : List (Addr × Addr)), K.In h ∧ (∀ p ∈ cs, h.get? p.2 = some (PySem.W.tabObj #[])) ∧ (∀ p ∈ cs, K.lookup p.2 = none) ∧ (∀ p ∈ cs, PySem.W.CodeHd h p.1 p.2) ∧ (∀ (s : Shared) (u : Value), BindsTo s fd ⟨[u], []⟩ [(x, u)]) ∧
        (∀ (H : Hp) (a : Addr) (ns : List Int), ns.length ≤ n → OnlyT H → (∀ p ∈ cs, H p.2 = some (.tbl #[])) → SqL K H a (ns.map V.int) → sp [.ref a] H (fun v _ => v = .bl true) fun _ _ _ => False) ∧
        ∀ base : Heap, K.In base → base.Ns mainGlobals mg → (∀ p ∈ cs, LamX.TabB base mg p.1 p.2) → FnOk l.prog w K mg base (L2N.CX l.prog w) k fa fd [x] sp) :
    PySem.W.WalkO q loose XP YP l.row.toRowW d [] (fun f vs => PySem.call f vs) := by
  refine Att.attach_call hn hdf fun w s₀ s₁ mg mb fa o pm cd doc a vs ns G Y ho hd hcd hmg hobj hints hlen hg => ?_
  obtain ⟨K, fd, sp, cs, KX, hT, nT, cd', hb, hsp, hF⟩ := F w mg mb _ fa _ Y G.T hmg
  exact law_callT KX G.T.g G.T.b G.T.builtins G.T.nolimit hg hT nT cd' G.T.bmain hobj hints (Nat.le_trans hlen hn2) hr hF hb (fun H hO hH hS => hsp H a ns hlen hO hH hS) fun H e s' => cx_false
/-- the tables stand apart and are not of the written part; the names' tables are there -/
theorem tabsOf_mem {K : PySem.W.Frag} {p : Addr × Str} (h : p ∈ tabsOf K) : ∃ x ∈ lamNames, ∃ c, PySem.W.tabIn K x = some (c, p.1) ∧ p.2 = x ++ ".<locals>." ++ "<lambda>" := by
  obtain ⟨x, hx, e⟩ := List.mem_filterMap.mp h
  obtain ⟨q, e1, e2⟩ := Option.map_eq_some_iff.mp e
  subst e2
  exact ⟨x, hx, q.1, e1, rfl⟩
theorem tabCs_tab {K : PySem.W.Frag} {p : Addr × Addr} (h : p ∈ tabCs K) : ∃ x ∈ lamNames, PySem.W.tabIn K x = some p := List.mem_filterMap.mp h
theorem tabCs_mem {K : PySem.W.Frag} {x : Str} {p : Addr × Addr} (hx : x ∈ lamNames) (e : PySem.W.tabIn K x = some p) : p ∈ tabCs K ∧ (p.2, x ++ ".<locals>." ++ "<lambda>") ∈ tabsOf K :=
  ⟨List.mem_filterMap.mpr ⟨x, hx, e⟩, List.mem_filterMap.mpr ⟨x, hx, by rw [e]; rfl⟩⟩
section
variable {K : PySem.W.Frag} {xs : List Str}
theorem tabB_parts (b : tabB K xs = true) : ((tabsOf K).map (·.1)).Nodup ∧ (∀ p ∈ tabsOf K, K.lookup p.1 = none) ∧ (∀ x ∈ xs, ∃ p, PySem.W.tabIn K x = some p) ∧ ∀ x ∈ lamNames, x ∈ xs ∨ PySem.W.tabIn K x = none := by
  unfold tabB at b
  simp only [Bool.and_eq_true, decide_eq_true_eq, List.all_eq_true] at b
  obtain ⟨⟨⟨b1, b2⟩, b3⟩, b4⟩ := b
  refine ⟨b1, fun p hp => Option.isNone_iff_eq_none.mp (b2 p hp), fun x hx => Option.isSome_iff_exists.mp (b3 x hx), fun x hx => ?_⟩
  rcases Bool.or_eq_true_iff.mp (b4 x hx) with z | z
  · exact .inl (List.contains_iff_mem.mp z)
  · exact .inr (Option.isNone_iff_eq_none.mp z)
theorem tabB_none (b : tabB K xs = true) : ∀ p ∈ tabCs K, K.lookup p.2 = none := fun p hp => by
  obtain ⟨x, hx, e⟩ := tabCs_tab hp
  exact (tabB_parts b).2.1 _ (tabCs_mem hx e).2
end
theorem script_rvT {P : Program} {w : World} {K : PySem.W.Frag} {H : Hp} {a : Addr} {ns : List Int} (hO : OnlyT H) (hS : SqL K H a (ns.map V.int)) : RV ⟨K, [], P, w⟩ [] H (.cl (ns.map PV.int)) (.ref a) := by
  rcases hS with (h | ⟨o, h⟩) | h
  · rcases hO a with z | ⟨ps, z⟩ | ⟨o, xs, z⟩
    · rw [z] at h; cases h
    · rw [z] at h; cases h
    · rw [z] at h; cases h
  · exact ⟨a, _, rfl, .inl ⟨⟨o, h⟩, by simp⟩, ints_rv ns⟩
  · exact ⟨a, _, rfl, .inr h, ints_rv ns⟩
theorem law_endT {P : Program} {w : World} {K : PySem.W.Frag} {mg : Str → Option Value} {C : Calls} {fi : Nat} (hl : ∀ ns : List Int, ns.length ≤ 63 → ∃ h, C fi [.cl (ns.map PV.int)] [] = .ok (.bl true) h) (H : Hp) (a : Addr) (ns : List Int) (hn : ns.length ≤ 63) (hO : OnlyT H) (hT : ∀ p ∈ tabCs K, H p.2 = some (.tbl #[])) (hS : SqL K H a (ns.map V.int)) :
    spF ⟨K, [], P, w⟩ mg C fi 1 [.ref a] H (fun v _ => v = .bl true) fun _ _ _ => False := by
  obtain ⟨h, e⟩ := hl ns hn
  refine ⟨rfl, [], [], [.cl (ns.map PV.int)], ⟨rfl, List.nodup_nil, fun n o e => (by simp at e), fun p hp => ?_⟩, RVs.cons (script_rvT hO hS) RVs.nil, ?_⟩
  · obtain ⟨x, hx, c, e1, e2⟩ := tabsOf_mem hp
    exact LamX.TabS.nil (hT _ (tabCs_mem hx e1).1)
  · rw [e]
    intro φ' H' b x s r
    exact r
end Sb
namespace Sb
open PySem PySem.Spec PyProof.Rows L2
section
variable {K : ZZ} {φ : List Addr} {H H' : Hp}
/-- nothing but tables may have changed -/
abbrev Grow (H H' : Hp) : Prop := ∀ a o, (∀ ps, o ≠ .tbl ps) → H a = some o → H' a = some o
theorem Grow.kp (g : Grow H H') : Kp φ φ H H' := ⟨fun _ _ q => q, fun a o f e n => ⟨g a o (fix_ntbl f) e, n⟩⟩
theorem Grow.ext (g : Grow H H') : Ext φ φ H H' := ⟨⟨[], by simp⟩, fun a o e _ nt => g a o nt e, fun _ h n => absurd h n⟩
end
end Sb
namespace Sb
open PySem PySem.Spec PyProof.Rows L2
theorem RVs.rev {K : ZZ} {φ : List Addr} {H : Hp} : ∀ {ps : List PV} {vs : List V}, RVs K φ H ps vs → RVs K φ H ps.reverse vs.reverse
  | [], vs, r => by
    have : vs = [] := r
    subst this
    exact rfl
  | p :: ps, vs, r => by
    obtain ⟨v, t, e, q, s⟩ := r
    subst e
    rw [List.reverse_cons, List.reverse_cons]
    exact (RVs.rev s).append (RVs.cons q RVs.nil)
end Sb
namespace Sb
open PySem PySem.Spec PyProof.Rows L2
theorem _root_.L2H.RoomH.u66 {k : Nat} {A : Around} (r : L2H.RoomH k A) : A.units + 66 < cLine := by have := r.un; omega
theorem RE.length {K : ZZ} {φ : List Addr} {H : Hp} : ∀ {ρ : Env} {σ : L2.St}, RE K φ H ρ σ → σ.length = ρ.length
  | [], σ, h => by rw [show σ = [] from h]; rfl
  | q :: ρ, σ, h => by
    obtain ⟨w, r, e1, k, s⟩ := h
    rw [e1, List.length_cons, List.length_cons, RE.length s]
end Sb
namespace Sb
open PySem PySem.Spec PyProof.Rows L2
section
variable {K : PySem.W.Frag} {P : Program} {w : World} {φ : List Addr} {H : Hp} {pn pn' : List (Addr × Obj)}
mutual
theorem RV.cold : ∀ {p : PV} {v : V}, RV ⟨K, [], P, w⟩ φ H p v → coldV p = true
  | .non, _, _ => rfl
  | .bl _, _, _ => rfl
  | .int _, _, _ => rfl
  | .str _, _, _ => rfl
  | .ty _, _, _ => rfl
  | .ref _, _, _ => rfl
  | .tup l, v, h => by
    obtain ⟨a, vs, e, q, r⟩ := h
    exact RVs.cold (p := l) r
  | .cl l, v, h => by
    obtain ⟨a, vs, e, q, r⟩ := h
    exact RVs.cold (p := l) r
  | .cls _, _, _ => rfl
  | .xc _ _ _, v, h => by
    obtain ⟨a, oe, e, q, _⟩ := h
    cases q
  | .ste _, _, _ => rfl
  | .exv _ _ l, v, h => by
    obtain ⟨a, us, e, n, d, r⟩ := h
    exact RVs.cold (p := l) r
theorem RVs.cold : ∀ {p : List PV} {v : List V}, RVs ⟨K, [], P, w⟩ φ H p v → coldVs p = true
  | [], _, _ => rfl
  | p :: ps, vs, h => by
    obtain ⟨v, r, e, q, s⟩ := h
    exact Bool.and_eq_true_iff.mpr ⟨RV.cold q, RVs.cold (p := ps) s⟩
end
theorem RO.cold {o : PO} {ho : HO} (h : RO ⟨K, [], P, w⟩ φ H o ho) : coldO o = true := by
  cases o with
  | lst l =>
    obtain ⟨vs, e, r⟩ := h
    exact RVs.cold (p := l) r
  | dct l =>
    obtain ⟨kvs, e, k, r⟩ := h
    exact RVs.cold r
  | obj c fs =>
    obtain ⟨dx, kvs, e, k, r⟩ := h
    exact RVs.cold r
  | dtp l =>
    obtain ⟨kvs, e, k, r⟩ := h
    exact RVs.cold r
theorem Sim.cold {h : PH} (s : Sim ⟨K, [], P, w⟩ φ h H) {n : Nat} {o : PO} (e : h[n]? = some o) : coldO o = true := by
  obtain ⟨a, ho, _, _, r⟩ := s.ob n o e
  exact r.cold
theorem RE.cold : ∀ {ρ : Env} {σ : L2.St} {n : Nat} {p : PV}, RE ⟨K, [], P, w⟩ φ H ρ σ → ρ[n]? = some (some p) → coldV p = true := fun r e => by
  obtain ⟨v, _, q⟩ := r.get e
  exact q.cold
end
/-- its context; k: how deep calls may go -/
structure CqX (X : Cx) (W : WX) (k : Nat) : Prop where
  cold : X.calm = false
  nd : X.N.Nodup
  hr : L2H.RoomH k X.A
  tk : L2N.Takes X W
  hot : ∃ p r, X.pn = p :: r ∧ L2H.Hot1 X.A p
theorem CqX.u66 {X : Cx} {W : WX} {k : Nat} (c : CqX X W k) : X.A.units + 66 < cLine := c.hr.u66
end Sb
namespace Sb
open PySem PySem.Spec PyProof.Rows L2
section
variable {X : Cx} {W : WX} {C : Calls} {a b c d : Expr} {ea eb ec ed : E} {pos p3 : Pos}
/-- xs[::-1] -/
theorem je_rev {k : Nat} {p1 p2 : Pos} (ha : JE X W C a ea) : JE X W C (.Subscript a (.Slice none none (some (.UnaryOp .USub (.Constant (.int 1) k p1) p2)) p3) pos) (.rev ea) :=
  za5 (pe_revL ha) fun σ H Q ⟨ρ, φ, h, sm, re, o⟩ => by
    have o' : Out (zOf X) X.mg (RV (zOf X)) φ H (atS W σ) Q ((evG C ea false ρ h).bind fun x h1 => revop x h1) := by
      have e : evG C (.rev ea) false ρ h = (evG C ea false ρ h).bind fun x h1 => revop x h1 := by rw [evG]; rfl
      rw [← e]
      exact o
    refine ⟨ρ, φ, h, sm, re, (Out.bind (rel2 := RV (zOf X)) o').imp fun x H1 ⟨φ1, v, h1, x1, s1, r1, o1⟩ => ?_⟩
    unfold revop at o1
    split at o1
    · rename_i l e1
      obtain ⟨ad, vs, hx, hq, r'⟩ := s1.listV (l := l) r1 e1
      by_cases lk : zaq l.reverse.length
      · rw [alloc, if_pos lk] at o1
        exact ⟨ad, vs, hx, hq, fun p np => o1.alloc s1 (RVs.rev r') p np⟩
      · rw [alloc, if_neg lk] at o1
        exact (show False from o1).elim
    · exact (show False from o1).elim
end
end Sb
namespace Sb
open PySem PySem.Spec L2
def pick {α : Type} (ix : List Nat) (l : List α) : List α := ix.filterMap fun i => l[i]?
theorem vals_pick {vs : List V} {us : List Value} (r : Vals vs us) : ∀ ix : List Nat, Vals (pick ix vs) (pick ix us)
  | [] => .nil
  | i :: ix => by
    have ih := vals_pick r ix
    unfold pick
    rw [List.filterMap_cons, List.filterMap_cons]
    cases h : vs[i]? with
    | none =>
      have : us[i]? = none := by
        rw [List.getElem?_eq_none_iff] at h ⊢
        rw [← r.length]
        exact h
      rw [this]
      exact ih
    | some v =>
      obtain ⟨u, hu, ru⟩ := r.get h
      rw [hu]
      exact .cons ru ih
theorem pk_imp {X : Cx} {kws : List Keyword} {t t' : TA} (h : PK X kws t) (f : ∀ σ H Q, t' σ H Q → t σ H Q) : PK X kws t' := ⟨fun pos pins s σ H Q I q => h.run pos pins s σ H Q I (f σ H Q q)⟩
abbrev JK (X : Cx) (W : WX) (C : Calls) (kws : List Keyword) (ees : List E) : Prop := PK X kws (tAs (zOf X) X.mg W C ees)
section
variable {X : Cx} {W : WX} {C : Calls} {a b c : Expr} {as : List Expr} {pos p kpos : Pos} {ea eb ec : E} {ees kes : List E} {x : Str} {k : Nat} {kws : List Keyword} {nm : Option Str}
theorem jk_nil : JK X W C [] [] := pk_imp pk_nil fun σ H Q ⟨ρ, φ, h, sm, re, o⟩ => o.at sm RVs.nil
theorem jk_cons (ha : JE X W C a ea) (hr : JK X W C kws ees) : JK X W C (⟨nm, a, kpos⟩ :: kws) (ea :: ees) :=
  pk_imp (pk_cons ha hr) fun σ H Q ⟨ρ, φ, h, sm, re, o⟩ =>
    ⟨ρ, φ, h, sm, re, (Out.bind (rel2 := RV (zOf X)) (show Out (zOf X) X.mg (RVs (zOf X)) φ H (atS W σ) Q ((evG C ea false ρ h).bind fun x h1 => (evGs C ees ρ h1).bind fun l h2 => .ok (x :: l) h2) from o)).imp fun x H1 ⟨φ1, va, h1, x1, s1, r1, o1⟩ =>
      ⟨ρ, φ1, h1, s1, re.mono x1, (Out.bind (rel2 := RVs (zOf X)) o1).imp fun xs H2 ⟨φ2, vb, h2, x2, s2, r2, o2⟩ => o2.at s2 (RVs.cons (r1.mono x2) r2)⟩⟩
end
section
variable {K : PySem.W.Frag} {x qual : Str} {params : Arguments} {body : List Stmt} {scope : Scope} {dvs : List V} {kws : List (Str × V)} {f : Addr} {fd : FuncData} {ps : List Str}
theorem kbnN (F : FunD K x qual params body scope [] kws f fd) (n : Nat) (ks : List Str) (ix : List Nat)
    (h : ∀ (kV doc pm : Value) (an : Option Addr) (cdv ct : Value) (us ws : List Value), us.length = n → ws.length = ks.length → bindArgs (PySem.W.fnOf x qual params body scope .none kV doc pm an cdv ct) ⟨us, ks.zip ws⟩ = pure (ps.zip (pick ix (us ++ ws)))) :
    KBn K fd ps n ks (fun us ws => pick ix (us ++ ws) ++ []) (fun vs zs => pick ix (vs ++ zs) ++ []) := by
  obtain ⟨oc, od, dV, kV, doc, pm, an, cdv, ct, osl, rfl, lk, hcd, hD, hK⟩ := F.ex
  rcases hD with ⟨_, rfl⟩ | ⟨e, _⟩
  · exact ⟨fun s us ws X l1 l2 => .of_eq (by rw [List.append_nil]; exact h kV doc pm an cdv ct us ws l1 l2), fun r1 r2 => (vals_pick (r1.append r2) ix).append .nil⟩
  · exact absurd rfl e
end
end Sb
namespace Sb
open PySem PySem.Spec PyProof.Rows L2
section
variable {X : Cx} {CX : CXT} {k : Nat} {f C : Addr} {fd : FuncData} {ps : List Str} {sp : Sp} {dvs : List V} {ds : List Value} {E : L2.St → XK} {x m : Str} {p pos apos : Pos} {e o : Expr} {es : List Expr} {ta : TE} {t : TA}
/-- C(..) -/
def tMakeS (C : Addr) (sp : Sp) (dvs : List V) (E : L2.St → XK) (t : TA) : TE := fun σ H Q => t σ H fun vs H1 => ∀ x dx, H1 x = none → H1 dx = none → dx ≠ x →
  sp (.ref x :: (vs ++ dvs)) (upd (upd H1 dx (.own x)) x (.ins C dx [])) (fun v H2 => v = .non ∧ Q (.ref x) H2) (E σ)
theorem run_makeSD {pins : List (Addr × Obj)} {σ : L2.St} {H : Hp} {s : Shared} {Q : VK} {us : List Value} {vs : List V} (M : Mk X.K C f) (F : FnOk X.prog X.w X.K X.mg X.base CX k f fd ps sp) (hr : Room (k + 1) X.A) (hb : Binds X.K fd ps ds) (hd : Vals dvs ds)
    (hx : PassesAt CX X σ (E σ)) (I : Inv X pins σ H s) (r : Vals vs us)
    (h : ∀ x dx, H x = none → H dx = none → dx ≠ x → sp (.ref x :: (vs ++ dvs)) (upd (upd H dx (.own x)) x (.ins C dx [])) (fun v H2 => v = .non ∧ Q (.ref x) H2) (E σ)) :
    wpAny (model X.prog X.w) X.A (PySem.call (.ref C) us) (EP X pins σ Q) X.xe s := by
  have hq := h (s.heap.objs.size + 1) s.heap.objs.size (I.hok.fresh (Nat.le_succ _)) (I.hok.fresh (Nat.le_refl _)) (Nat.ne_of_lt (Nat.lt_succ_self _))
  have I2 := Inv.made (C := C) I
  have r2 : Vals (V.ref (s.heap.objs.size + 1) :: (vs ++ dvs)) (Value.ref (s.heap.objs.size + 1) :: (us ++ ds)) := .cons rfl (r.append hd)
  have hl : (Value.ref (s.heap.objs.size + 1) :: us ++ ds).length = ps.length := by
    have e := r2.length
    rw [F.len _ _ _ _ hq] at e
    exact e.symm
  refine wpAny_call (make_map (f := f) I.kIn M.makes M.init (beq_iff_eq.mp M.fn) (codeAny_mono (F.run _ X.stack _ _ ⟨Value.ref (s.heap.objs.size + 1) :: us, []⟩ (Value.ref (s.heap.objs.size + 1) :: (us ++ ds)) _ _ (E σ) (hr.make C us [])
    (I2.env0.make C us []) (hb _ (Value.ref (s.heap.objs.size + 1) :: us) I2.kIn hl) r2 hq) fun r s' hq' => ?_))
  cases r with
  | error e => exact hx pins _ _ e s' I2 hq'
  | ok fl =>
    cases fl with
    | ret u =>
      obtain ⟨v, H', I3, rv, ev, q3⟩ := I2.after hq'
      subst ev
      exact ⟨rv, ⟨V.ref (s.heap.objs.size + 1), H', I3, rfl, q3⟩⟩
    | next => exact False.elim hq'
    | brk => exact False.elim hq'
    | cont => exact False.elim hq'
theorem pe_makeSD (M : Mk X.K C f) (F : FnOk X.prog X.w X.K X.mg X.base CX k f fd ps sp) (hr : Room (k + 1) X.A) (hg : Gl X x) (hm : X.mg x = some (.ref C)) (hb : Binds X.K fd ps ds) (hd : Vals dvs ds) (hx : ∀ σ, PassesAt CX X σ (E σ))
    (ha : PA X (e :: es) t) (hdb : (x == ("__debug__" : Str)) = false := by decide) (he : starEach (e :: es) X.env = (false, eval e X.env) :: starEach es X.env := by rfl) (hpl : (backTo pos (starEach es X.env)).any (·.1) = false := by rfl) :
    PE X (.Call (.Name x p) (e :: es) [] pos) (tMakeS C sp dvs E t) := by
  refine ⟨fun pins s σ H Q I h => ?_⟩
  refine wpAny_Call_Name_kw (ld_glob I hg hm ?_ hdb)
  refine PySem.W.callWith_K (h₀ := X.base) I.ok.mod.kin M.kp (thn (ha.run pos pins s σ H _ I h) fun us s1 ⟨vs, H1, I1, r, q⟩ => ⟨I1.kIn, ?_⟩) he hpl
  exact run_makeSD M F hr hb hd (hx σ) I1 r q
end
section
variable {K : ZZ} {φ φ' : List Addr} {H H' : Hp}
def RFd (K : ZZ) (φ : List Addr) (H : Hp) (fs : List (Str × PV)) (kvs : List (Str × V)) : Prop := kvs.map (·.1) = fs.map (·.1) ∧ RVs K φ H (fs.map (·.2)) (kvs.map (·.2))
theorem RFd.nil : RFd K φ H [] [] := ⟨rfl, rfl⟩
theorem RFd.inv {f : Str} {p : PV} {l : List (Str × PV)} {kvs : List (Str × V)} (r : RFd K φ H ((f, p) :: l) kvs) : ∃ v t, kvs = (f, v) :: t ∧ RV K φ H p v ∧ RFd K φ H l t := by
  cases kvs with
  | nil =>
    have := r.1
    simp at this
  | cons kv t =>
    obtain ⟨k', v⟩ := kv
    obtain ⟨r1, v', t', e, q, s⟩ := r
    simp at r1 e
    obtain ⟨rfl, r2⟩ := r1
    obtain ⟨rfl, rfl⟩ := e
    exact ⟨v, t, rfl, q, r2, s⟩
theorem RFd.empty {kvs : List (Str × V)} (r : RFd K φ H [] kvs) : kvs = [] := by
  have := r.1
  simpa using this
theorem RFd.cons {f : Str} {p : PV} {v : V} {l : List (Str × PV)} {kvs : List (Str × V)} (h : RV K φ H p v) (r : RFd K φ H l kvs) : RFd K φ H ((f, p) :: l) ((f, v) :: kvs) := ⟨by simp [r.1], RVs.cons h r.2⟩
theorem RFd.mono (x : Ext φ φ' H H') {l : List (Str × PV)} {kvs : List (Str × V)} (r : RFd K φ H l kvs) : RFd K φ' H' l kvs := ⟨r.1, r.2.mono x⟩
theorem RFd.look (f : Str) : ∀ {l : List (Str × PV)} {kvs : List (Str × V)}, RFd K φ H l kvs → (l.lookup f = none ∧ kvs.lookup f = none) ∨ ∃ p v, l.lookup f = some p ∧ kvs.lookup f = some v ∧ RV K φ H p v
  | [], kvs, r => by
    rw [r.empty]
    exact .inl ⟨rfl, rfl⟩
  | (g, p) :: l, kvs, r => by
    obtain ⟨v, t, rfl, q, s⟩ := r.inv
    by_cases e : f = g
    · subst e
      exact .inr ⟨p, v, by simp [List.lookup], by simp [List.lookup], q⟩
    · have e' : (f == g) = false := beq_eq_false_iff_ne.mpr e
      rcases RFd.look f s with ⟨h1, h2⟩ | ⟨p', v', h1, h2, h3⟩
      · exact .inl ⟨by simp [List.lookup, e', h1], by simp [List.lookup, e', h2]⟩
      · exact .inr ⟨p', v', by simp [List.lookup, e', h1], by simp [List.lookup, e', h2], h3⟩
theorem RFd.put {f : Str} {p : PV} {v : V} (h : RV K φ H p v) : ∀ {l : List (Str × PV)} {kvs : List (Str × V)}, RFd K φ H l kvs → RFd K φ H (putO f p l) (putF f v kvs)
  | [], kvs, r => by
    rw [r.empty]
    exact RFd.cons h RFd.nil
  | (g, q) :: l, kvs, r => by
    obtain ⟨w, t, rfl, q', s⟩ := r.inv
    unfold putO putF
    by_cases e : g = f
    · rw [if_pos e, if_pos e]
      exact RFd.cons h s
    · rw [if_neg e, if_neg e]
      exact RFd.cons q' (RFd.put h s)
theorem RFd.length {l : List (Str × PV)} {kvs : List (Str × V)} (r : RFd K φ H l kvs) : l.length = kvs.length := by
  have := congrArg List.length r.1
  simpa using this.symm
theorem Sim.obj {h : PH} {n : Nat} {c : Str} {fs : List (Str × PV)} (s : Sim K φ h H) (e : h[n]? = some (.obj c fs)) : ∃ a dx kvs, φ[n]? = some a ∧ H a = some (.ins (He.ga K.K c) dx kvs) ∧ RFd K φ H fs kvs := by
  obtain ⟨a, ho, e1, e2, dx, kvs, e3, r⟩ := s.ob n _ e
  subst e3
  exact ⟨a, dx, kvs, e1, e2, r⟩
theorem insB_inv {c m : Str} {h : PH} {v : PV} (e : insB c m h v = true) : ∃ n fs, v = .ref n ∧ h[n]? = some (.obj c fs) ∧ fs.lookup m = none := by
  cases v with
  | ref n =>
    simp only [insB] at e
    split at e
    · rename_i c' fs q
      obtain ⟨h1, h2⟩ := Bool.and_eq_true_iff.mp e
      have := of_decide_eq_true h1
      subst this
      exact ⟨n, fs, rfl, q, Option.isNone_iff_eq_none.mp h2⟩
    · cases e
  | _ => cases e
theorem ins_at {c m : Str} {h : PH} {v : PV} {x : V} (s : Sim K φ h H) (r : RV K φ H v x) (e : insB c m h v = true) : ∃ a dx kvs, x = .ref a ∧ H a = some (.ins (He.ga K.K c) dx kvs) ∧ kvs.lookup m = none := by
  obtain ⟨n, fs, rfl, e1, e2⟩ := insB_inv e
  obtain ⟨a, ex, ea⟩ := r
  obtain ⟨a', dx, kvs, q1, q2, q3⟩ := s.obj e1
  rw [ea] at q1
  cases q1
  refine ⟨a, dx, kvs, ex, q2, ?_⟩
  rcases q3.look m with ⟨_, z⟩ | ⟨p, v, z, _⟩
  · exact z
  · rw [e2] at z
    cases z
end
/-- what a class of the program must have; fs: its fields -/
structure ClI (K : PySem.W.Frag) (c : Str) (fs : List Str) : Prop where
  cl : Cls K (He.ga K c)
  na : ∀ f ∈ fs, NoAttr K (He.ga K c) f
structure MeI (P : Program) (w : World) (K : PySem.W.Frag) (mg : Str → Option Value) (base : Heap) (C : Calls) (k : Nat) (c m : Str) (fi np : Nat) (ds : List Value) : Prop where
  ex : ∃ (fa : Addr) (fd : FuncData) (ps : List Str), ps.length = np ∧ FnOk P w K mg base (L2N.CX P w) (2 * k + 3) fa fd ps (spF ⟨K, [], P, w⟩ mg C fi np) ∧ Meth K (He.ga K c) m fa ∧ Binds K fd ps ds
structure MkI (P : Program) (w : World) (K : PySem.W.Frag) (mg : Str → Option Value) (base : Heap) (C : Calls) (k : Nat) (c : Str) (fi np : Nat) : Prop where
  ex : ∃ (fa : Addr) (fd : FuncData) (ps : List Str), ps.length = np ∧ FnOk P w K mg base (L2N.CX P w) (2 * k + 3) fa fd ps (spF ⟨K, [], P, w⟩ mg C fi np) ∧ Mk K (He.ga K c) fa ∧ mg c = some (.ref (He.ga K c)) ∧ Binds K fd ps []
section
variable {X : Cx} {W : WX} {C : Calls} {a b c3 o : Expr} {as : List Expr} {pos p apos : Pos} {ea eb ec eo : E} {ees : List E} {x c m f : Str} {k : Nat} {fs : List Str}
theorem je_fld (T : ClI X.K c fs) (hf : f ∈ fs) (ha : JE X W C a ea) (hb : attributeBase a f X.env (eval a X.env) = eval a X.env := by rfl) : JE X W C (.Attribute a f pos) (.fld c f ea) :=
  za5 (pe_fld ha hb) fun σ H Q ⟨ρ, φ, h, sm, re, oo⟩ =>
    ⟨ρ, φ, h, sm, re, (Out.bind (rel2 := RV (zOf X)) (show Out (zOf X) X.mg (RV (zOf X)) φ H (atS W σ) Q ((evG C ea false ρ h).bind fun x h1 => fldop c f x h1) from oo)).imp fun y H1 ⟨φ1, va, h1, x1, s1, r1, o1⟩ => by
      cases va with
      | ref n =>
        simp only [fldop] at o1
        split at o1
        · rename_i c' fs' e
          split at o1
          · rename_i ec
            subst ec
            obtain ⟨p, ep, o2⟩ := o1.some
            obtain ⟨ad, ex, ead⟩ := r1
            obtain ⟨a', dx, kvs, q1, q2, q3⟩ := s1.obj e
            rw [ead] at q1
            cases q1
            rcases q3.look f with ⟨z, _⟩ | ⟨p', v, z1, z2, z3⟩
            · rw [ep] at z
              cases z
            · rw [ep] at z1
              cases z1
              exact ⟨ad, _, dx, kvs, v, ex, q2, T.cl, T.na f hf, z2, o2.at s1 z3⟩
          · exact (show False from o1).elim
        · exact (show False from o1).elim
      | _ => exact (show False from o1).elim⟩
theorem set_fld {φ : List Addr} {H : Hp} {h h' : PH} {pv pw : PV} {v w : V} (sm : Sim (zOf X) φ h H) (r : RV (zOf X) φ H pv v) (rw' : RV (zOf X) φ H pw w) (e : setfld c f pv pw h = some h') :
    ∃ a dx kvs, v = .ref a ∧ H a = some (.ins (He.ga X.K c) dx kvs) ∧ kvs.length < 1000 ∧ Ext φ φ H (upd H a (.ins (He.ga X.K c) dx (putF f w kvs))) ∧ Sim (zOf X) φ h' (upd H a (.ins (He.ga X.K c) dx (putF f w kvs))) := by
  cases pv with
  | ref n =>
    simp only [setfld] at e
    split at e
    · rename_i c' fs' en
      split at e
      · rename_i hc
        obtain ⟨rfl, hl⟩ := hc
        cases e
        obtain ⟨ad, ex, ead⟩ := r
        obtain ⟨a', dx, kvs, q1, q2, q3⟩ := sm.obj en
        rw [ead] at q1
        cases q1
        have m : ad ∈ φ := List.mem_of_getElem? ead
        refine ⟨ad, dx, kvs, ex, q2, by rw [← q3.length]; omega, Ext.write sm m, sm.writeO ead (o := .obj c' (putO f pw fs')) ⟨dx, putF f w kvs, rfl, ?_⟩⟩
        exact q3.put rw'
      · cases e
    · cases e
  | _ => cases e
/-- o.f = e -/
theorem js_fld {tpos : Pos} (T : ClI X.K c fs) (hf : f ∈ fs) (ha : JE X W C a ea) (ho : JE X W C o eo)
    (hs : swapsWith a (some (.Attribute o f tpos)) pos.line X.env = pure false := by rfl) : JS X W C (.Assign [.Attribute o f tpos] a pos) (.asg (.fld c f eo) ea) :=
  ps_imp (ps_fld ho ha hs) fun D σ H ⟨ρ, φ, h, sm, re, oo⟩ =>
    ⟨ρ, φ, h, sm, re, (OutS.st (rel := RV (zOf X)) re (show OutS (zOf X) X.mg φ H W D ((evE C ea ρ h).st ρ fun v h1 => (evE C eo ρ h1).st ρ fun x h2 => match setfld c f x v h2 with | some h3 => .nx ρ h3 | none => .no) from oo)).imp fun y H1 ⟨φ1, v, h1, x1, s1, r1, o1⟩ =>
      ⟨ρ, φ1, h1, s1, re.mono x1, (OutS.st (rel := RV (zOf X)) (re.mono x1) o1).imp fun z H2 ⟨φ2, w, h2, x2, s2, r2, o2⟩ => by
        cases e : setfld c f w v h2 with
        | none => rw [e] at o2; exact (show False from o2).elim
        | some h3 =>
          rw [e] at o2
          obtain ⟨ad, dx, kvs, ez, q1, q2, q3, q4⟩ := set_fld s2 r2 (r1.mono x2) e
          exact ⟨ad, _, dx, kvs, ez, q1, T.cl, T.na f hf, q2, o2 φ2 _ σ q3 q4 (((re.mono x1).mono x2).mono q3)⟩⟩⟩
/-- what the making of an instance gives -/
theorem make_red {fi np : Nat} {σ : L2.St} {Q : VK} {φ : List Addr} {H : Hp} {h : PH} {l : List PV} {vs : List V} (hl : 1 + l.length = np) (sm : Sim (zOf X) φ h H) (r : RVs (zOf X) φ H l vs)
    (o : Out (zOf X) X.mg (RV (zOf X)) φ H (atS W σ) Q ((C fi (.ref h.length :: l) (h ++ [.obj c []])).bind fun v h2 => isNew v h.length h2)) : ∀ x dx, H x = none → H dx = none → dx ≠ x →
    spF (zOf X) X.mg C fi np (.ref x :: vs) (upd (upd H dx (.own x)) x (.ins (He.ga X.K c) dx [])) (fun v H2 => v = .non ∧ Q (.ref x) H2) (WE W σ) := by
  intro x dx nx nd ne
  have x1 : Ext φ φ H (upd H dx (.own x)) := Ext.new nd
  have s1 := sm.new (o := .own x) nd
  have n1 : upd H dx (.own x) x = none := by
    rw [upd_ne (Ne.symm ne)]
    exact nx
  have x2 := x1.trans (Ext.push (o := .ins (He.ga X.K c) dx []) n1)
  have s2 := s1.pushO n1 (o := .obj c []) (ho := .ins (He.ga X.K c) dx []) ⟨dx, [], rfl, rfl, rfl⟩
  have hp : (φ ++ [x])[h.length]? = some x := by
    rw [List.getElem?_append_right (by rw [sm.len]; exact Nat.le_refl _), sm.len, Nat.sub_self]
    rfl
  refine ⟨by rw [List.length_cons, ← r.length]; omega, φ ++ [x], h ++ [.obj c []], .ref h.length :: l, s2, RVs.cons ⟨x, rfl, hp⟩ (r.mono x2), ?_⟩
  refine (Out.bind (rel2 := RV (zOf X)) (o.mono x2)).imp fun v H3 ⟨φ3, v', h3, x3, s3, r3, o3⟩ => ?_
  cases v' with
  | non => exact ⟨r3, (show Out (zOf X) X.mg (RV (zOf X)) φ3 H3 (atS W σ) Q (.ok (.ref h.length) h3) from o3).at s3 ⟨x, rfl, x3.at hp⟩⟩
  | _ => exact (show False from o3).elim
/-- c(e, ..) -/
theorem je_make {fi np : Nat} (G : MkI X.prog X.w X.K X.mg X.base C k c fi np) (hcalm : X.calm = true) (hr : Room (2 * k + 4) X.A) (tk : L2N.Takes X W) (ha : JA X W C (a :: as) ees)
    (hl : 1 + ees.length = np := by rfl) (hg : Gl X c := by rfl) (hdb : (c == ("__debug__" : Str)) = false := by decide) (he : starEach (a :: as) X.env = (false, eval a X.env) :: starEach as X.env := by rfl) (hpl : (backTo pos (starEach as X.env)).any (·.1) = false := by rfl) :
    JE X W C (.Call (.Name c p) (a :: as) [] pos) (.make c fi ees []) := by
  obtain ⟨fa, fd, ps, hps, F, hm, hmg, hb⟩ := G.ex
  have hz : zOf X = ⟨X.K, [], X.prog, X.w⟩ := z_calm hcalm
  rw [← hz] at F
  exact za5 (pe_makeSD (dvs := []) hm F hr hg hmg hb .nil (fun σ => L2N.passAt tk σ) ha hdb he hpl) fun σ H Q ⟨ρ, φ, h, sm, re, oo⟩ => by
    have o' : Out (zOf X) X.mg (RV (zOf X)) φ H (atS W σ) Q ((evGs C ees ρ h).bind fun l h1 => (C fi (.ref h1.length :: (l ++ [])) (h1 ++ [.obj c []])).bind fun v h2 => isNew v h1.length h2) := oo
    refine ⟨ρ, φ, h, sm, re, ?_⟩
    cases e : evGs C ees ρ h with
    | ok l h1 =>
      rw [e, R.bind_ok] at o'
      intro φ' H' vs x s r
      rw [List.append_nil] at o'
      rw [List.append_nil]
      exact make_red (by rw [evGs_length e]; exact hl) s r (o'.mono x)
    | ex y h1 => rw [e] at o'; exact o'
    | no => rw [e] at o'; exact o'
end
end Sb
namespace Sb
open PySem PySem.Spec PyProof.Rows L2
section
variable {X : Cx} {W : XK}
theorem bi_sum (hc : X.calm = true) : CallR X (.builtin "sum") (rCa (zOf X) X.mg W biSum) := by
  intro pins s σ H vs us Q I rv hh
  obtain ⟨φ, h, ps, sm, r, o⟩ := hh
  unfold biSum at o
  split at o
  · rename_i n
    split at o
    · rename_i l e1
      split at o
      · rename_i xs e2
        obtain ⟨v, e, q⟩ := r.one
        subst e
        obtain ⟨ad, ws, hx, hq, r'⟩ := sm.listV (l := l) q (by simp only [listOf, e1])
        have ew := ints_rel r' e2
        subst ew
        exact cr_sum hc pins s σ H _ us Q I rv ⟨ad, xs, by rw [hx], hq, o.at sm rfl⟩
      · exact o.elim
    · exact o.elim
  · exact o.elim
end
end Sb
namespace Sb
open PySem PySem.Spec PyProof.Rows L2
theorem clB_ok {K : PySem.W.Frag} {c : Str} {fs : List Str} (e : clB K c fs = true) : ClI K c fs := by
  unfold clB at e
  obtain ⟨h1, e⟩ := Bool.and_eq_true_iff.mp e
  obtain ⟨h2, e⟩ := Bool.and_eq_true_iff.mp e
  obtain ⟨h3, e⟩ := Bool.and_eq_true_iff.mp e
  obtain ⟨h4, h5⟩ := Bool.and_eq_true_iff.mp e
  exact ⟨⟨h1, h2, h3, He.eqO_ok h4⟩, fun f hf => He.eqO_ok (List.all_eq_true.mp h5 f hf)⟩
theorem meB_ok {K : PySem.W.Frag} {c m : Str} (e : meB K c m = true) : PySem.W.findIn K (.ref (He.ga K c)) m = some (some (.ref (He.ma K (He.ga K c) m))) ∧ PySem.W.isFn K (.ref (He.ma K (He.ga K c) m)) = true := by
  obtain ⟨h1, h2⟩ := Bool.and_eq_true_iff.mp e
  exact ⟨He.eqO_ok h1, h2⟩
theorem mkB_ok {K : PySem.W.Frag} {c : Str} (e : mkB K c = true) : Mk K (He.ga K c) (He.ma K (He.ga K c) "__init__") := by
  obtain ⟨h1, h2⟩ := Bool.and_eq_true_iff.mp e
  obtain ⟨h3, h4⟩ := Bool.and_eq_true_iff.mp h2
  obtain ⟨h5, h6⟩ := meB_ok h3
  exact ⟨h1, h5, h6, h4⟩
end Sb
namespace L2
open PySem
end L2
namespace Sb
open PySem PySem.Spec PyProof.Rows L2
section
open L2
variable {K : ZZ} {φ : List Addr} {H : Hp} {X : Cx} {W : XK}
theorem RD.drop (k : Key) : ∀ {l : List (Key × PV)} {kvs : List (Key × V)}, RD K φ H l kvs → RD K φ H (dropP l k) (dropK kvs k)
  | [], kvs, r => by
    rw [r.empty]
    exact RD.nil
  | (k', p) :: l, kvs, r => by
    obtain ⟨v, t, rfl, q, s⟩ := r.inv
    have ih := RD.drop k s
    unfold dropP dropK at ih ⊢
    by_cases e : k' = k
    · rw [List.filter_cons_of_neg (by simp [e]), List.filter_cons_of_neg (by simp [e])]
      exact ih
    · rw [List.filter_cons_of_pos (by simp [e]), List.filter_cons_of_pos (by simp [e])]
      exact RD.cons q ih
end
end Sb
namespace Sb
open PySem PySem.Spec PyProof.Rows L2
theorem Kp.trans {φ φ' φ2 : List Addr} {H H' H2 : Hp} (x : Kp φ φ' H H') (y : Kp φ' φ2 H' H2) : Kp φ φ2 H H2 := ⟨fun n a e => y.pl n a (x.pl n a e), fun a o f e n => y.fx a o f (x.fx a o f e n).1 (x.fx a o f e n).2⟩
theorem RE.monoK {K : ZZ} {φ φ' : List Addr} {H H' : Hp} (x : Kp φ φ' H H') : ∀ {ρ : Env} {σ : L2.St}, RE K φ H ρ σ → RE K φ' H' ρ σ
  | [], _, h => h
  | q :: ρ, σ, h => by
    obtain ⟨v, r, e, k, s⟩ := h
    exact ⟨v, r, e, fun y z => (k y z).imp fun u w => ⟨w.1, w.2.monoK x⟩, RE.monoK x s⟩
end Sb
set_option maxHeartbeats 2000000
namespace Sb
open PySem PySem.Spec PyProof.Rows L2 HotX
section
variable {X : Cx}
/-- the block of a comprehension while an exception is handled -/
abbrev bkH (X : Cx) (p : Addr × Obj) (s : Shared) (H : Hp) (scope : Scope) (ce : PySem.Env) (fp : List Addr) : Cx := { X.blk s H scope ce fp with pn := [p] }
end
end Sb
set_option maxHeartbeats 4000000
namespace Sb
open PySem PySem.Spec PyProof.Rows L2
section
variable {X : Cx} {W : WX} {C : Calls} {k : Nat} {a b : Expr} {ea eb : E} {p pos : Pos}
theorem CqX.hot1 (c : CqX X W k) {p : Addr × Obj} {r : List (Addr × Obj)} (ep : X.pn = p :: r) : L2H.Hot1 X.A p := by
  obtain ⟨p', r', e, h⟩ := c.hot
  rw [ep] at e
  cases e
  exact h
theorem CqX.bk (c : CqX X W k) {p : Addr × Obj} {r : List (Addr × Obj)} (ep : X.pn = p :: r) (s : Shared) (H : Hp) (scope : Scope) (ce : PySem.Env) (fp : List Addr) : CqX (bkH X p s H scope ce fp) W0 k := ⟨c.cold, c.nd, c.hr, takesN0, p, [], rfl, c.hot1 ep⟩
theorem CqX.hc (c : CqX X W k) : L2H.HotC X := by
  obtain ⟨p, r, e, h⟩ := c.hot
  exact ⟨p, h, by rw [e]; exact List.mem_cons_self⟩
end
end Sb
namespace Sb
open PySem PySem.Spec PyProof.Rows L2
/-- a set of texts: in any order those of D; its table rises and can be walked -/
def SetRS (P : Program) (w : World) (h : Heap) (a : Addr) (D : List Str) : Prop :=
  ∃ o es ep t, h.get? a = some o ∧ o.ExactSet ∧ o.data = .set es ep t ∧ ElemsOf (PySem.strKind P w) es.toList ∧ (es.toList.map fun e => strOf e.2).Perm D ∧
    es.size < scanBound ∧ t.fits es.size = true ∧ Ris t.place.toList ∧ (w.params.followText "set-order" = true ∨ t.led = true)
section
variable {P : Program} {w : World} {A : Around} {E : Value → Shared → Prop} {s : Shared} {a : Addr} {D : List Str}
theorem SetRS.at {h h' : Heap} (R : SetRS P w h a D) (k : ∀ o, h.get? a = some o → h'.get? a = some o) : SetRS P w h' a D := by
  obtain ⟨o, es, ep, t, ho, r⟩ := R
  exact ⟨o, es, ep, t, k o ho, r⟩
end
end Sb
namespace Sb
open PySem PySem.Spec PyProof.Rows L2
section
variable {X : Cx} {W : WX} {C : Calls} {pos : Pos}
/-- o[i], o2[i2] = x, y -/
theorem js_sub2 {o i o2 i2 a : Expr} {eo ei eo2 ei2 ea : E} {tp tp2 tp3 : Pos} {k : Nat} (hc : X.calm = true) (hu : X.A.units + 66 < cLine) (ha : JE X W C a ea) (ho : JE X W C o eo) (hi : JE X W C i ei) (ho2 : JE X W C o2 eo2) (hi2 : JE X W C i2 ei2)
    (hg : ∀ v, assign (.Subscript o i tp) X.env v = (do
      let ov ← holding [v] (eval o X.env)
      let iv ← holding [v, ov] (eval i X.env)
      standAt tp
      holding [v, ov, iv] (setItem ov iv v)
      release [v, ov, iv] []) := by intro _; rfl)
    (hg2 : ∀ v, assign (.Subscript o2 i2 tp2) X.env v = (do
      let ov ← holding [v] (eval o2 X.env)
      let iv ← holding [v, ov] (eval i2 X.env)
      standAt tp2
      holding [v, ov, iv] (setItem ov iv v)
      release [v, ov, iv] []) := by intro _; rfl)
    (hs : swapsWithSole [.Tuple [.Subscript o i tp, .Subscript o2 i2 tp2] k tp3] a pos.line X.env = pure false := by rfl) (hw : swappedStores [.Tuple [.Subscript o i tp, .Subscript o2 i2 tp2] k tp3] a X.env = pure none := by rfl)
    (h1 : (assignEach [.Tuple [.Subscript o i tp, .Subscript o2 i2 tp2] k tp3] X.env).map (·.2) = [assign (.Tuple [.Subscript o i tp, .Subscript o2 i2 tp2] k tp3) X.env] := by rfl)
    (n1 : (assignEach [.Subscript o i tp, .Subscript o2 i2 tp2] X.env).map (·.2) = assign (.Subscript o i tp) X.env :: (assignEach [.Subscript o2 i2 tp2] X.env).map (·.2) := by rfl)
    (n2 : (assignEach [.Subscript o2 i2 tp2] X.env).map (·.2) = assign (.Subscript o2 i2 tp2) X.env :: (assignEach [] X.env).map (·.2) := by rfl)
    (hn : (assignEach [.Subscript o i tp, .Subscript o2 i2 tp2] X.env).length = 2 := by rfl) (hst : (assignEach [.Subscript o i tp, .Subscript o2 i2 tp2] X.env).findIdx? (·.1) = none := by rfl) :
    JS X W C (.Assign [.Tuple [.Subscript o i tp, .Subscript o2 i2 tp2] k tp3] a pos) (.asg (.sub2 eo ei eo2 ei2) ea) :=
  ps_imp (ps_asg ha (pg_tup hc (pgs_cons (pg_sub ho hi (set_ok (by omega)) hg) (pgs_cons (pg_sub ho2 hi2 (set_ok (by omega)) hg2) pgs_nil n2) n1) hn hst) hs hw h1) fun D σ H ⟨ρ, φ, h, sm, re, oo⟩ => by
  have o' : OutS (zOf X) X.mg φ H W D ((evE C ea ρ h).st ρ fun v h1 => stTg C (.sub2 eo ei eo2 ei2) v ρ h1) := oo
  refine ⟨ρ, φ, h, sm, re, (OutS.st (rel := RV (zOf X)) re o').imp fun x H1 ⟨φ1, v, h1, x1, s1, r1, o1⟩ => ?_⟩
  have re1 := re.mono x1
  have key : ∃ c d, v = .tup [c, d] := by
    cases v with
    | tup l =>
      match l, o1 with
      | [], o1 => exact (show False from o1).elim
      | [_], o1 => exact (show False from o1).elim
      | [c, d], _ => exact ⟨c, d, rfl⟩
      | _ :: _ :: _ :: _, o1 => exact (show False from o1).elim
    | _ => exact (show False from o1).elim
  obtain ⟨c, d, rfl⟩ := key
  obtain ⟨ad, vs, rfl, hq, rr⟩ := r1
  obtain ⟨v1, v2, rfl, q1, q2⟩ := rr.two
  refine ⟨ad, [v1, v2], rfl, hq.sq, rfl, v1, [v2], rfl, ?_⟩
  have o2 : OutS (zOf X) X.mg φ1 H1 W D ((evE C eo ρ h1).st ρ fun x h1 => (evE C ei ρ h1).st ρ fun y h2 => match zbo x y c h2 with
      | some h3 => (evE C eo2 ρ h3).st ρ fun x2 h4 => (evE C ei2 ρ h4).st ρ fun y2 h5 => match zbo x2 y2 d h5 with | some h6 => .nx ρ h6 | none => .no
      | none => .no) := o1
  refine ⟨ρ, φ1, h1, s1, re1, (OutS.st (rel := RV (zOf X)) re1 o2).imp fun y H2 ⟨φ2, w, h2, x2, s2, r2, o3⟩ => ?_⟩
  refine ⟨ρ, φ2, h2, s2, re1.mono x2, (OutS.st (rel := RV (zOf X)) (re1.mono x2) o3).imp fun z H3 ⟨φ3, u, h3, x3, s3, r3, o4⟩ => ?_⟩
  have re3 := (re1.mono x2).mono x3
  cases e : zbo w u c h3 with
  | none => rw [e] at o4; exact (show False from o4).elim
  | some h4 =>
    rw [e] at o4
    refine ⟨φ3, h3, w, u, c, h4, s3, r2.mono x3, r3, (q1.mono x2).mono x3, e, fun H4 x4 s4 => ?_⟩
    refine ⟨v2, [], rfl, ?_⟩
    have re4 := re3.mono x4
    have o5 := OutS.mono x4 (show OutS (zOf X) X.mg φ3 H3 W D ((evE C eo2 ρ h4).st ρ fun x2 h4 => (evE C ei2 ρ h4).st ρ fun y2 h5 => match zbo x2 y2 d h5 with | some h6 => .nx ρ h6 | none => .no) from o4)
    refine ⟨ρ, φ3, h4, s4, re4, (OutS.st (rel := RV (zOf X)) re4 o5).imp fun y' H5 ⟨φ5, w', h5, x5, s5, r5, o6⟩ => ?_⟩
    refine ⟨ρ, φ5, h5, s5, re4.mono x5, (OutS.st (rel := RV (zOf X)) (re4.mono x5) o6).imp fun z' H6 ⟨φ6, u', h6, x6, s6, r6, o7⟩ => ?_⟩
    have re6 := (re4.mono x5).mono x6
    cases e' : zbo w' u' d h6 with
    | none => rw [e'] at o7; exact (show False from o7).elim
    | some h7 =>
      rw [e'] at o7
      exact ⟨φ6, h6, w', u', d, h7, s6, r5.mono x6, r6, ((((q2.mono x2).mono x3).mono x4).mono x5).mono x6, e', fun H7 x7 s7 => ⟨rfl, (show OutS (zOf X) X.mg φ6 H6 W D (.nx ρ h7) from o7) φ6 H7 σ x7 s7 (re6.mono x7)⟩⟩
end
end Sb
namespace Sb
open PySem PySem.Spec PyProof.Rows L2
/-- the values under like keys, one by one -/
inductive HitsW (prog : Program) (w : World) {K : Type} [DecidableEq K] (A : Around) (s : Shared) (kb : List (K × Value)) : List (K × Value) → Bool → Prop
  | nil : HitsW prog w A s kb [] true
  | miss {k : K} {v : Value} {r : List (K × Value)} : valueAt kb k = none → HitsW prog w A s kb ((k, v) :: r) false
  | hit {k : K} {v y : Value} {r : List (K × Value)} {e b : Bool} : valueAt kb k = some y → (∀ (E : Value → Shared → Prop) (Q : Bool → Shared → Prop), Q e s → wpAny (model prog w) A (eqBool v y) Q E s) → HitsW prog w A s kb r b → HitsW prog w A s kb ((k, v) :: r) (e && b)
theorem HitsW.inv {prog : Program} {w : World} {K : Type} [DecidableEq K] {A : Around} {s : Shared} {kb : List (K × Value)} {k : K} {v : Value} {r : List (K × Value)} {b : Bool} (h : HitsW prog w A s kb ((k, v) :: r) b) :
    (valueAt kb k = none ∧ b = false) ∨ ∃ y e b', valueAt kb k = some y ∧ (∀ (E : Value → Shared → Prop) (Q : Bool → Shared → Prop), Q e s → wpAny (model prog w) A (eqBool v y) Q E s) ∧ HitsW prog w A s kb r b' ∧ b = (e && b') := by
  cases h with
  | miss h => exact .inl ⟨h, rfl⟩
  | hit h1 h2 h3 => exact .inr ⟨_, _, _, h1, h2, h3, rfl⟩
end Sb
namespace Sb
open PySem PySem.Spec L2
/-- pairs, flat and as pairs -/
def RPs (K : ZZ) (φ : List Addr) (H : Hp) : List PV → List (V × V) → Prop
  | [], ps => ps = []
  | [_], _ => False
  | a :: b :: l, ps => ∃ x y r, ps = (x, y) :: r ∧ RV K φ H a x ∧ RV K φ H b y ∧ RPs K φ H l r
theorem RPs.mono {K : ZZ} {φ φ' : List Addr} {H H' : Hp} (x : Ext φ φ' H H') : ∀ {l : List PV} {ps : List (V × V)}, RPs K φ H l ps → RPs K φ' H' l ps
  | [], _, r => r
  | [_], _, r => r.elim
  | _ :: _ :: _, _, ⟨u, v, r, e, q1, q2, q3⟩ => ⟨u, v, r, e, q1.mono x, q2.mono x, RPs.mono x q3⟩
end Sb
namespace Sb
open PySem PySem.Spec PyProof.Rows L2
section
variable {X : Cx} {W : WX} {C : Calls} {a b : Expr} {pos : Pos} {ea eb : E} {c : Str} {k fi : Nat}
/-- what isinstance asks of an own class -/
structure IsOwn (K : PySem.W.Frag) (C : Addr) : Prop where
  ha : PySem.W.findIn K (.ref C) "__class__" = some (some (.builtin "object.__class__"))
  hn : PySem.W.specialIn K (.builtin "object.__class__") "__get__" = some (some (.builtin "getset_descriptor.__get__"))
  htk : PySem.W.takesIn K (.builtin "object.__class__") = some true
  hm : PySem.W.mroIn K C (.type "object") = some true
  me : PySem.W.kitOne K (.ref C) (.ref C) = some true
theorem ownB_ok {K : PySem.W.Frag} {c : Str} (e : ownB K c = true) : IsOwn K (He.ga K c) := by
  obtain ⟨e1, e⟩ := He.ba e
  obtain ⟨e2, e⟩ := He.ba e
  obtain ⟨e3, e⟩ := He.ba e
  obtain ⟨e4, e5⟩ := He.ba e
  exact ⟨He.eqO_ok e1, He.eqO_ok e2, of_decide_eq_true e3, of_decide_eq_true e4, of_decide_eq_true e5⟩
end
end Sb
namespace PySem.HandSPX
open PySem PySem.W
end PySem.HandSPX
namespace Sb
open PySem PySem.Spec PyProof.Rows L2
theorem pick_range {α : Type} : ∀ (l : List α), pick (List.range l.length) l = l
  | l => by
    unfold pick
    apply List.ext_getElem?
    intro i
    have : ∀ (n : Nat), n ≤ l.length → (List.range n).filterMap (fun i => l[i]?) = l.take n := by
      intro n
      induction n with
      | zero => intro _; simp
      | succ n ih =>
        intro hn
        rw [List.range_succ, List.filterMap_append, ih (by omega), List.take_add_one]
        simp [List.getElem?_eq_getElem (show n < l.length by omega)]
    rw [this _ (Nat.le_refl _), List.take_length]
end Sb
namespace PySem.W
open PySem PySem.Spec PyProof.Rows PySem.Calls
section
variable {prog : Program} {w : World} {A : Around} {E : Value → Shared → Prop} {s : Shared} {K : Frag} {x C f L : Addr} {h₀ : Heap} {m : Str → Option Value} {ox : Obj} {od : Option Obj} {b tb : Value}
/-- a != b by an own ==: object.__ne__ -/
theorem ne_run {Q : Value → Shared → Prop} (hu : A.in1.units < cLine) (X : K.In s.heap) (I : InstAt s.heap x ox C od) (hs : findIn K (.ref C) "__eq__" = some (some (.ref f))) (hf : isFn K (.ref f) = true) (hm : mroIn K C (.type "object") = some true)
    (h : wpAny (model prog w) A.in1 (call (.ref f) [.ref x, b]) (fun v s' => ∃ r, v = .bool r ∧ Q (.bool (!r)) s') E s) : wpAny (model prog w) A (call (.builtin "object.__ne__") [.ref x, b]) Q E s := by
  refine wpAny_call (codeAny_call_builtin PySem.F.slot_object_ne.plain PySem.F.entry_object_ne (@check_slot (model prog w) _ _ _ "object.__ne__" "object" "__ne__" (.ref x) [b] [] _ (by decide +kernel) (by decide +kernel) (I.type.andThen (looks_mroIn X hm)) (PySem.F.args_object_ne_2 _ _) ?_))
  unfold Builtin.«object.__ne__»
  refine wpAny_bind (wpAny_pure ?_)
  refine wpAny_bind (wpAny_cRoomFor hu ?_)
  refine wpAny_bind (ifBound_K X I hs hf (wpAny_mono h (fun v s' hv => ?_) fun _ _ e => e))
  obtain ⟨r, rfl, hq⟩ := hv
  show wpAny _ _ (truthy (.bool r) >>= _) _ _ _
  refine wpAny_bind (wpAny_truthy_bool ?_)
  exact wpAny_pure hq
theorem ifBound_ne {M : Model} {args : List Value} {Q : Option Value → Shared → Prop} (X : K.In s.heap) (I : InstAt s.heap x ox C od) (hs : findIn K (.ref C) "__ne__" = some (some (.builtin "object.__ne__")))
    (h : wpAny M A (call (.builtin "object.__ne__") (.ref x :: args)) (fun v => Q (some v)) E s) : wpAny M A (callSpecialIfBound? (.ref x) "__ne__" args) Q E s := by
  simp only [callSpecialIfBound?, bindSpecialIfBound?]
  refine wpAny_holding (wpAny_bind (wpAny_bind (wpAny_bind (I.type.here ((looks_findIn X hs).here ?_)))))
  refine wpAny_bind (wpAny_askSetting (wpAny_ite ?_))
  have fin : wpAny M A (call (.builtin "object.__ne__") ([.ref x] ++ args) >>= fun v => pure (some v)) Q E s := wpAny_bind (wpAny_mono h (fun v s' h' => wpAny_pure h') fun _ _ h' => h')
  split
  · rw [PySem.F.slot_object_ne.bind]
    exact wpAny_bind (wpAny_pure (wpAny_pure (by exact fin)))
  · rw [PySem.F.slot_object_ne.bind]
    exact wpAny_tryCatch (wpAny_bind (wpAny_pure (wpAny_pure (by exact fin))))
theorem cmp_ne {Q : Value → Shared → Prop} (hu : A.units < cLine) (hu1 : A.in1.units < cLine) (F : Fr h₀ L s.heap m) (X₀ : K.In h₀) (I : InstAt s.heap x ox C od) (hb : Looks (model prog w) s.heap (typeOf b) tb) (hn : notFirst K C tb = true)
    (hne : findIn K (.ref C) "__ne__" = some (some (.builtin "object.__ne__"))) (hs : findIn K (.ref C) "__eq__" = some (some (.ref f))) (hf : isFn K (.ref f) = true) (hm : mroIn K C (.type "object") = some true)
    (h : wpAny (model prog w) A.in1 (call (.ref f) [.ref x, b]) (fun v s' => ∃ r, v = .bool r ∧ Q (.bool (!r)) s') E s) : wpAny (model prog w) A (richCompare .NotEq (.ref x) b) Q E s := by
  have X := X₀.keeps F.keep
  have one : wpAny (model prog w) A (tryCompare (.ref x) (cmpInfo .NotEq).2.1 b) (fun r s' => ∃ v, r = some v ∧ Q v s') E s := by
    unfold tryCompare
    refine wpAny_bind (ifBound_ne X I hne (wpAny_mono (ne_run (Q := fun v s' => ∃ r, v = .bool r ∧ Q v s') hu1 X I hs hf hm (wpAny_mono h (fun v s' hv => by
        obtain ⟨r, e, q⟩ := hv
        exact ⟨r, e, _, rfl, q⟩) fun _ _ e => e)) (fun v s' hv => ?_) fun _ _ e => e))
    obtain ⟨r, rfl, q⟩ := hv
    exact wpAny_pure ⟨_, rfl, q⟩
  unfold richCompare
  simp only [oneThing_ref]
  refine wpAny_holding (wpAny_bind (wpAny_cRoomFor hu ?_))
  refine wpAny_bind (I.type.here (wpAny_bind (hb.here ?_)))
  split
  · rename_i q
    have e : subIn K tb (.ref C) = some false := by
      rcases Bool.or_eq_true_iff.mp hn with e | e
      · rw [beq_iff_eq.mp e] at q; simp at q
      · exact beq_iff_eq.mp e
    refine wpAny_bind ((looks_subIn X e).here ?_)
    simp only [Bool.false_eq_true, if_false]
    refine wpAny_bind (wpAny_mono one (fun r s' z => ?_) fun _ _ e => e)
    obtain ⟨v, rfl, hq⟩ := z
    exact wpAny_pure hq
  · refine wpAny_bind (wpAny_pure ?_)
    simp only [Bool.false_eq_true, if_false]
    refine wpAny_bind (wpAny_mono one (fun r s' z => ?_) fun _ _ e => e)
    obtain ⟨v, rfl, hq⟩ := z
    exact wpAny_pure hq
/-- len(x) by an own __len__ -/
theorem len_own {Q : Value → Shared → Prop} (X : K.In s.heap) (I : InstAt s.heap x ox C od) (hs : findIn K (.ref C) "__len__" = some (some (.ref f))) (hf : isFn K (.ref f) = true)
    (h : wpAny (model prog w) A.in1 (call (.ref f) [.ref x]) (fun v s' => ∃ i t, v = .int i t ∧ 0 ≤ i ∧ i ≤ 1000000 ∧ ∀ t', Q (.int i t') { s' with toks := s'.toks + 1 }) E s) : wpAny (model prog w) A (call (.builtin "len") [.ref x]) Q E s := by
  refine Calls.call_function_entry kind_len plain_len entry_len (args_len1 _) ?_
  unfold Builtin.«len»
  refine wpAny_bind (m := oneArg "len" _) (wpAny_pure ?_)
  refine wpAny_bind (m := callSpecial? (.ref x) (PySem.Str.ofString "__len__")) (special_fn X I hs (beq_iff_eq.mp hf) (wpAny_mono h (fun v s' hv => ?_) fun _ _ e => e))
  obtain ⟨i, t, rfl, h0, h1, q⟩ := hv
  refine wpAny_bind (wpAny_holding (wpAny_pure ?_))
  refine wpAny_bind (wpAny_letGo ?_)
  show wpAny _ _ (if i < 0 then _ else _) _ _ _
  rw [if_neg (by omega)]
  show wpAny _ _ (if i ≥ 2 ^ 63 then _ else _) _ _ _
  rw [if_neg (by omega)]
  exact wpAny_bind (wpAny_mkInt (wpAny_pure ⟨_, rfl, q _⟩))
end
end PySem.W
namespace Sb
open PySem PySem.Spec PyProof.Rows L2
theorem room_in2 {k : Nat} {A : Around} (r : Room (k + 1) A) : Room k A.in1.in1 :=
  ⟨r.hd, by have := r.dp; show A.depth + 3 * k + 5 < _; omega, by have := r.un; show A.units + 1 + 1 + 16 * k + 200 < _; omega⟩
/-- what is known of an own class, besides its fields -/
structure OwI (K : PySem.W.Frag) (c : Str) : Prop where
  own : IsOwn K (He.ga K c)
  nf : ∀ t : Ty, PySem.W.notFirst K (He.ga K c) (.type t.nm) = true
  ki : ∀ t : Ty, PySem.W.kitOne K (.type t.nm) (.ref (He.ga K c)) = some false
  ne : PySem.W.findIn K (.ref (He.ga K c)) "__ne__" = some (some (.builtin "object.__ne__"))
theorem owB_ok {K : PySem.W.Frag} {c : Str} (e : owB K c = true) : OwI K c := by
  obtain ⟨e1, e⟩ := He.ba e
  obtain ⟨e2, e3⟩ := He.ba e
  have h : ∀ t : Ty, t ∈ tysAll := fun t => by cases t <;> decide
  exact ⟨ownB_ok e2, fun t => (He.ba (List.all_eq_true.mp e1 t (h t))).1, fun t => of_decide_eq_true (He.ba (List.all_eq_true.mp e1 t (h t))).2, He.eqO_ok e3⟩
section
variable {X : Cx} {a b e : Expr} {te ta tb : TE} {p pos : Pos} {x : Str}
def oneV (P : V → Prop) (vs : List V) : Prop := ∃ v, vs = [v] ∧ P v
theorem oneV_eq {P : V → Hp → Prop} : (fun v H1 => oneV (fun u => P u H1) [v]) = P := by
  funext v H1
  exact propext ⟨fun ⟨u, e, q⟩ => by cases e; exact q, fun q => ⟨v, rfl, q⟩⟩
theorem oneV_vals {P : V → Prop} {vs : List V} {us : List Value} (r : Vals vs us) (q : oneV P vs) : ∃ v u, us = [u] ∧ RelV v u ∧ P v := by
  obtain ⟨v, rfl, q⟩ := q
  cases r with
  | cons r1 r2 =>
    cases r2
    exact ⟨v, _, rfl, r1, q⟩
/-- one argument -/
theorem pa_one (ha : PE X e te) (he : starEach [e] X.env = (false, eval e X.env) :: starEach [] X.env) : PA X [e] (fun σ H Q => te σ H fun v H1 => Q [v] H1) := pa_cons ha pa_nil he
/-- T(e), f(e): what the call tells may hang on the names -/
theorem pe_ty1 {T : String} {R : L2.St → V → Hp → VK → Prop} (hc : ∀ pins s σ H x u Q, Inv X pins σ H s → RelV x u → R σ x H Q → wpAny (model X.prog X.w) X.A (PySem.call (.type T) [u]) (EP X pins σ Q) X.xe s) (hg : Gl X x) (hm : X.mg x = none) (hv : bootBuiltins x = some (.type T)) (ha : PE X e te) (hn : x ≠ "__name__") (hdb : (x == ("__debug__" : Str)) = false)
    (he : starEach [e] X.env = (false, eval e X.env) :: starEach [] X.env) (hpl : (backTo pos (starEach [] X.env)).any (·.1) = false) : PE X (.Call (.Name x p) [e] [] pos) (fun σ H Q => te σ H fun v H1 => R σ v H1 Q) := by
  refine ⟨fun pins s σ H Q I h => ?_⟩
  refine wpAny_Call_Name_kw (ld_blt I hg hm hv ?_ hn hdb)
  refine PyProof.Rows.callWith_type1 (thn ((pa_one ha he).run pos pins s σ H (fun vs H1 => oneV (fun v => R σ v H1 Q) vs) I ?_) fun us s1 hz => ?_) he hpl
  · show te σ H (fun v H1 => oneV (fun u => R σ u H1 Q) [v])
    rw [oneV_eq (P := fun v H1 => R σ v H1 Q)]
    exact h
  · obtain ⟨vs, H1, I1, r1, q1⟩ := hz
    obtain ⟨v, u, rfl, rv, q⟩ := oneV_vals r1 q1
    exact hc pins s1 σ H1 v u Q I1 rv q
theorem pe_bl1 {id : String} {R : L2.St → V → Hp → VK → Prop} (hc : ∀ pins s σ H x u Q, Inv X pins σ H s → RelV x u → R σ x H Q → wpAny (model X.prog X.w) X.A (PySem.call (.builtin id) [u]) (EP X pins σ Q) X.xe s) (hg : Gl X x) (hm : X.mg x = none) (hv : bootBuiltins x = some (.builtin id)) (ha : PE X e te) (hn : x ≠ "__name__") (hdb : (x == ("__debug__" : Str)) = false)
    (he : starEach [e] X.env = (false, eval e X.env) :: starEach [] X.env) (hpl : (backTo pos (starEach [] X.env)).any (·.1) = false) : PE X (.Call (.Name x p) [e] [] pos) (fun σ H Q => te σ H fun v H1 => R σ v H1 Q) := by
  refine ⟨fun pins s σ H Q I h => ?_⟩
  refine wpAny_Call_Name_kw (ld_blt I hg hm hv ?_ hn hdb)
  refine PyProof.Rows.callWith_builtin1 (thn ((pa_one ha he).run pos pins s σ H (fun vs H1 => oneV (fun v => R σ v H1 Q) vs) I ?_) fun us s1 hz => ?_) he hpl
  · show te σ H (fun v H1 => oneV (fun u => R σ u H1 Q) [v])
    rw [oneV_eq (P := fun v H1 => R σ v H1 Q)]
    exact h
  · obtain ⟨vs, H1, I1, r1, q1⟩ := hz
    obtain ⟨v, u, rfl, rv, q⟩ := oneV_vals r1 q1
    exact hc pins s1 σ H1 v u Q I1 rv q
end
section
variable {X : Cx} {W : WX} {C : Calls} {a b : Expr} {pos p : Pos} {ea eb : E} {c m : Str} {k fi np : Nat} {fs : List Str}
/-- an own method is called, somewhere below -/
theorem own_call (G : MeI X.prog X.w X.K X.mg X.base C k c m fi np []) (hcalm : X.calm = true) (tk : L2N.Takes X W) {A : Around} {pins : List (Addr × Obj)} {s : Shared} {σ : L2.St} {H : Hp} {Q : VK} {φ : List Addr} {h : PH} {ps : List PV} {vs : List V} {us : List Value} (hr : Room (2 * k + 3) A) (I : Inv X pins σ H s) (e0 : Env0 X.prog X.w X.K X.mg X.base A X.stack s H)
    (sm : Sim (zOf X) φ h H) (rp : RVs (zOf X) φ H ps vs) (hl : ps.length = np) (r : Vals vs us) (o : Out (zOf X) X.mg (RV (zOf X)) φ H (atS W σ) Q (C fi ps h)) : ∃ fa, Meth X.K (He.ga X.K c) m fa ∧ wpAny (model X.prog X.w) A (PySem.call (.ref fa) us) (EP X pins σ Q) X.xe s := by
  obtain ⟨fa, fd, qs, hps, F, hm, hb⟩ := G.ex
  have hz : zOf X = ⟨X.K, [], X.prog, X.w⟩ := z_calm hcalm
  rw [← hz] at F
  refine ⟨fa, hm, ?_⟩
  have lv : vs.length = np := by rw [← rp.length]; exact hl
  have lu : us.length = qs.length := by rw [← Paired.length r, lv, hps]
  have bt : BindsTo s fd { pos := us } (qs.zip us) := by
    have := hb s us I.kIn (by rw [List.append_nil]; exact lu)
    rw [List.append_nil] at this
    exact this
  refine wpAny_call (codeAny_mono (F.run A X.stack s H { pos := us } us vs Q (WE W σ) hr e0 bt r ⟨lv, φ, h, ps, sm, rp, o⟩) fun r s' hq => ?_)
  cases r with
  | error e => exact L2N.passAt tk σ pins H s e s' I hq
  | ok fl =>
    cases fl with
    | ret u => exact I.after hq
    | _ => exact (show False from hq).elim
theorem meth_eq {q : BI} {es : List E} {ρ : Env} {h : PH} : evG C (.bi q [.meth c m fi ea es []]) false ρ h = (evG C ea false ρ h).bind fun x h1 => if insB c m h1 x then (evGs C es ρ h1).bind fun l h2 => (C fi (x :: (l ++ [])) h2).bind fun v h3 => biF q [v] h3 else .no := by
  have e2 : evGs C [.meth c m fi ea es []] ρ h = (evG C (.meth c m fi ea es []) false ρ h).bind fun x h1 => .ok [x] h1 := rfl
  rw [evG, e2]
  have e3 : evG C (.meth c m fi ea es []) false ρ h = (evG C ea false ρ h).bind fun x h1 => if insB c m h1 x then (evGs C es ρ h1).bind fun l h2 => C fi (x :: (l ++ [])) h2 else .no := by rw [evG]; rfl
  rw [e3]
  show (fin false _) = _
  rw [show ∀ m : R PV, fin false m = m from fun _ => rfl]
  cases evG C ea false ρ h with
  | ok x h1 =>
    simp only [R.bind_ok]
    by_cases hi : insB c m h1 x = true
    · rw [if_pos hi, if_pos hi]
      cases evGs C es ρ h1 with
      | ok l h2 =>
        simp only [R.bind_ok]
        cases C fi (x :: (l ++ [])) h2 <;> rfl
      | ex _ _ => rfl
      | no => rfl
    · rw [if_neg hi, if_neg hi]
      rfl
  | ex _ _ => rfl
  | no => rfl
/-- str(a) by an own __str__ -/
theorem je_strO {x : Str} (T : OwI X.K c) (G : MeI X.prog X.w X.K X.mg X.base C k c "__str__" fi 1 []) (hcalm : X.calm = true) (hr : Room (2 * k + 4) X.A) (tk : L2N.Takes X W) (hm : X.mg x = none) (ha : JE X W C a ea) (hv : bootBuiltins x = some (.type "str") := by rfl) (hg : Gl X x := by rfl) (hn : x ≠ "__name__" := by decide) (hdb : (x == ("__debug__" : Str)) = false := by decide)
    (he : starEach [a] X.env = (false, eval a X.env) :: starEach [] X.env := by rfl) (hpl : (backTo pos (starEach [] X.env)).any (·.1) = false := by rfl) : JE X W C (.Call (.Name x p) [a] [] pos) (.bi .strR [.meth c "__str__" fi ea [] []]) := by
  refine za5 (pe_ty1 (R := fun σ v H Q => ∃ φ h1 va, Sim (zOf X) φ h1 H ∧ RV (zOf X) φ H va v ∧ insB c "__str__" h1 va = true ∧ Out (zOf X) X.mg (RV (zOf X)) φ H (atS W σ) Q ((C fi [va] h1).bind fun v h3 => biStrR [v] h3)) ?_ hg hm hv ha hn hdb he hpl) fun σ H Q ⟨ρ, φ, h, sm, re, o⟩ => ?_
  · rintro pins s σ H x u Q I rx ⟨φ, h1, va, sm, rv, hi, o⟩
    obtain ⟨ad, dx, kvs, rfl, q1, _⟩ := ins_at sm rv hi
    obtain rfl : u = Value.ref ad := rx
    obtain ⟨mA, J, _⟩ := ins_get I.hok q1
    obtain ⟨od, J, _⟩ := J.look
    obtain ⟨fa, hM, run⟩ := own_call (us := [Value.ref ad]) G hcalm tk (room_in2 hr) I I.env0.in1.in1 sm (RVs.cons rv RVs.nil) rfl (.cons rfl .nil) (Out.bind (rel2 := RV (zOf X)) o)
    refine PySem.W.kso_call (room_in2 hr).units0 I.kIn J hM.at_ hM.fn (wpAny_mono run (fun v s' hq => ?_) fun _ _ e => e)
    obtain ⟨z, H', I', rz, φ1, p', h3, x1, s1, rp, o3⟩ := hq
    cases p' with
    | str y =>
      obtain rfl : z = .str y := rp
      obtain ⟨t, rfl⟩ := rz
      exact ⟨.str y, H', I', ⟨t, rfl⟩, (show Out (zOf X) X.mg (RV (zOf X)) φ1 H' (atS W σ) Q (.ok (.str y) h3) from o3).at s1 rfl⟩
    | _ => exact (show False from o3).elim
  · rw [meth_eq] at o
    refine ⟨ρ, φ, h, sm, re, (Out.bind (rel2 := RV (zOf X)) o).imp fun y H1 ⟨φ1, va, h1, x1, s1, r1, o1⟩ => ?_⟩
    by_cases hi : insB c "__str__" h1 va = true
    · rw [if_pos hi] at o1
      exact ⟨φ1, h1, va, s1, r1, hi, o1⟩
    · rw [if_neg hi] at o1
      exact (show False from o1).elim
/-- len(a) by an own __len__ -/
theorem je_lenO {x : Str} (T : OwI X.K c) (G : MeI X.prog X.w X.K X.mg X.base C k c "__len__" fi 1 []) (hcalm : X.calm = true) (hr : Room (2 * k + 4) X.A) (tk : L2N.Takes X W) (hm : X.mg x = none) (ha : JE X W C a ea) (hv : bootBuiltins x = some (.builtin "len") := by rfl) (hg : Gl X x := by rfl) (hn : x ≠ "__name__" := by decide) (hdb : (x == ("__debug__" : Str)) = false := by decide)
    (he : starEach [a] X.env = (false, eval a X.env) :: starEach [] X.env := by rfl) (hpl : (backTo pos (starEach [] X.env)).any (·.1) = false := by rfl) : JE X W C (.Call (.Name x p) [a] [] pos) (.bi .lenR [.meth c "__len__" fi ea [] []]) := by
  refine za5 (pe_bl1 (R := fun σ v H Q => ∃ φ h1 va, Sim (zOf X) φ h1 H ∧ RV (zOf X) φ H va v ∧ insB c "__len__" h1 va = true ∧ Out (zOf X) X.mg (RV (zOf X)) φ H (atS W σ) Q ((C fi [va] h1).bind fun v h3 => biLenR [v] h3)) ?_ hg hm hv ha hn hdb he hpl) fun σ H Q ⟨ρ, φ, h, sm, re, o⟩ => ?_
  · rintro pins s σ H x u Q I rx ⟨φ, h1, va, sm, rv, hi, o⟩
    obtain ⟨ad, dx, kvs, rfl, q1, _⟩ := ins_at sm rv hi
    obtain rfl : u = Value.ref ad := rx
    obtain ⟨mA, J, _⟩ := ins_get I.hok q1
    obtain ⟨od, J, _⟩ := J.look
    obtain ⟨fa, hM, run⟩ := own_call (us := [Value.ref ad]) G hcalm tk (Room.in1 hr) I I.env0.in1 sm (RVs.cons rv RVs.nil) rfl (.cons rfl .nil) (Out.bind (rel2 := RV (zOf X)) o)
    refine PySem.W.len_own I.kIn J hM.at_ hM.fn (wpAny_mono run (fun v s' hq => ?_) fun _ _ e => e)
    obtain ⟨z, H', I', rz, φ1, p', h3, x1, s1, rp, o3⟩ := hq
    cases p' with
    | int i =>
      obtain rfl : z = .int i := rp
      obtain ⟨t, rfl⟩ := rz
      have o4 : Out (zOf X) X.mg (RV (zOf X)) φ1 H' (atS W σ) Q (if 0 ≤ i ∧ i ≤ 1000000 then .ok (.int i) h3 else .no) := o3
      by_cases hb : 0 ≤ i ∧ i ≤ 1000000
      · rw [if_pos hb] at o4
        exact ⟨i, t, rfl, hb.1, hb.2, fun t' => ⟨.int i, H', I'.tok _, ⟨t', rfl⟩, o4.at s1 rfl⟩⟩
      · rw [if_neg hb] at o4
        exact (show False from o4).elim
    | _ => exact (show False from o3).elim
  · rw [meth_eq] at o
    refine ⟨ρ, φ, h, sm, re, (Out.bind (rel2 := RV (zOf X)) o).imp fun y H1 ⟨φ1, va, h1, x1, s1, r1, o1⟩ => ?_⟩
    by_cases hi : insB c "__len__" h1 va = true
    · rw [if_pos hi] at o1
      exact ⟨φ1, h1, va, s1, r1, hi, o1⟩
    · rw [if_neg hi] at o1
      exact (show False from o1).elim
/-- the type of what an instance is held against -/
theorem ty_other (T : ClI X.K c fs) (q : OwI X.K c) {φ : List Addr} {h : PH} {H : Hp} {vb : PV} {y : V} {b : Bool} (sm : Sim (zOf X) φ h H) (r : RV (zOf X) φ H vb y) (e : isInsP c h vb = some b) : ∃ t : Value, TyX X.K H y t ∧ PySem.W.notFirst X.K (He.ga X.K c) t = true ∧ PySem.W.kitOne X.K t (.ref (He.ga X.K c)) = some b := by
  unfold isInsP at e
  cases ht : tyOf h vb with
  | some t =>
    rw [ht] at e
    cases e
    exact ⟨.type t.nm, tyx_of sm r ht, q.nf t, q.ki t⟩
  | none =>
    rw [ht] at e
    cases vb with
    | ref n =>
      dsimp only at e
      cases hn : h[n]? with
      | none => rw [hn] at e; cases e
      | some o =>
        rw [hn] at e
        cases o with
        | obj c' gs =>
          dsimp only at e
          by_cases hc : c' = c
          · rw [if_pos hc] at e
            cases e
            subst hc
            obtain ⟨a', ex, ea⟩ := r
            obtain ⟨a2, dx, kvs, q1, q2, q3⟩ := sm.obj hn
            rw [ea] at q1
            cases q1
            subst ex
            exact ⟨.ref (He.ga X.K c'), .base (TyOf.ins q2 T.cl q.own.ha q.own.hn q.own.htk q.own.hm), by unfold PySem.W.notFirst; simp, q.own.me⟩
          · rw [if_neg hc] at e
            cases e
        | _ => cases e
    | _ => cases e
theorem je_isCN {x : Str} {pc : Pos} (T : ClI X.K c fs) (q : OwI X.K c) (hx : X.mg x = none) (mc : X.mg c = some (.ref (He.ga X.K c))) (ha : JE X W C a ea) (hv : bootBuiltins x = some (.builtin "isinstance") := by rfl) (hg : Gl X x := by rfl) (hgc : Gl X c := by rfl) (hdc : (c == ("__debug__" : Str)) = false := by decide) (hn : x ≠ "__name__" := by decide) (hdb : (x == ("__debug__" : Str)) = false := by decide)
    (he : starEach [a, .Name c pc] X.env = (false, eval a X.env) :: starEach [.Name c pc] X.env := by rfl) (he1 : starEach [Expr.Name c pc] X.env = (false, eval (.Name c pc) X.env) :: starEach [] X.env := by rfl) (hpl : (backTo pos (starEach [Expr.Name c pc] X.env)).any (·.1) = false := by rfl) : JE X W C (.Call (.Name x p) [a, .Name c pc] [] pos) (.bi .isC [ea, .lit (.cls c)]) :=
  za5 (pe_callB call_isi hg hx hv (pa_cons ha (pa_cons (pe_glob (v := .ref (He.ga X.K c)) hgc mc rfl hdc) pa_nil he1) he) hn hdb he hpl) fun σ H Q ⟨ρ, φ, h, sm, re, o⟩ =>
    ⟨ρ, φ, h, sm, re, (Out.bind (rel2 := RV (zOf X)) (show Out (zOf X) X.mg (RV (zOf X)) φ H (atS W σ) Q ((evG C ea false ρ h).bind fun x h1 => match isInsP c h1 x with | some b => .ok (.bl b) h1 | none => .no) from by
      have e2 : evGs C [ea, .lit (.cls c)] ρ h = (evG C ea false ρ h).bind fun x h1 => .ok [x, .cls c] h1 := rfl
      have e : evG C (.bi .isC [ea, .lit (.cls c)]) false ρ h = (evG C ea false ρ h).bind fun x h1 => match isInsP c h1 x with | some b => .ok (.bl b) h1 | none => .no := by
        rw [evG, e2]
        cases evG C ea false ρ h <;> rfl
      rw [← e]
      exact o)).imp fun y H1 ⟨φ1, va, h1, x1, s1, r1, o1⟩ => by
        cases hi : isInsP c h1 va with
        | none => rw [hi] at o1; exact (show False from o1).elim
        | some b =>
          rw [hi] at o1
          obtain ⟨t, ty, _, ki⟩ := ty_other T q s1 r1 hi
          exact ⟨y, .ref (He.ga X.K c), t, .ref (He.ga X.K c), b, rfl, .own _, ty, ki, o1.at s1 rfl⟩⟩
/-- what an own == (ne: !=) of an instance with any thing tells -/
def oeqF (C : Calls) (c : Str) (k : Nat) (ne : Bool) (va vb : PV) (h : PH) : R PV :=
  if (insB c "__eq__" h va && (isInsP c h vb).isSome) = true then (C k [va, vb] h).calm.bind fun v h3 => match v with
    | .bl r => .ok (.bl (if ne then !r else r)) h3
    | _ => .no
  else .no
def rOeq (X : Cx) (C : Calls) (c : Str) (fi : Nat) (ne : Bool) : R2 := fun x y H Q => ∃ (φ : List Addr) (h : PH) (va vb : PV) (W' : XK), Sim (zOf X) φ h H ∧ RV (zOf X) φ H va x ∧ RV (zOf X) φ H vb y ∧ Out (zOf X) X.mg (RV (zOf X)) φ H W' Q (oeqF C c fi ne va vb h)
theorem oeq_run (T : ClI X.K c fs) (q : OwI X.K c) (G : MeI X.prog X.w X.K X.mg X.base C k c "__eq__" fi 2 []) (hcalm : X.calm = true) (tk : L2N.Takes X W) {ne : Bool} {A : Around} (hr : Room (2 * k + 3) A) {pins : List (Addr × Obj)} {s : Shared} {σ : L2.St} {H : Hp} {x y : V} {v u : Value} {Q : VK} (I : Inv X pins σ H s) (e0 : Env0 X.prog X.w X.K X.mg X.base A X.stack s H) (rx : RelV x v) (ry : RelV y u) (hh : rOeq X C c fi ne x y H Q) :
    ∃ (ad : Addr) (od : Option Obj) (ox : Obj) (t : Value) (fa : Addr), v = .ref ad ∧ PySem.W.InstAt s.heap ad ox (He.ga X.K c) od ∧ PySem.W.Looks (model X.prog X.w) s.heap (typeOf u) t ∧ PySem.W.notFirst X.K (He.ga X.K c) t = true ∧ Meth X.K (He.ga X.K c) "__eq__" fa ∧
      wpAny (model X.prog X.w) A (PySem.call (.ref fa) [.ref ad, u]) (fun v s' => ∃ r, v = .bool r ∧ EP X pins σ Q (.bool (if ne then !r else r)) s') X.xe s := by
  obtain ⟨φ, h, va, vb, W', sm, ra, rb, o⟩ := hh
  unfold oeqF at o
  split at o
  case isFalse => exact (show False from o).elim
  rename_i hi
  obtain ⟨hi, hb⟩ := Bool.and_eq_true_iff.mp hi
  obtain ⟨ad, dx, kvs, rfl, q1, _⟩ := ins_at sm ra hi
  obtain rfl : v = Value.ref ad := rx
  obtain ⟨mA, J, _⟩ := ins_get I.hok q1
  obtain ⟨od, J, _⟩ := J.look
  obtain ⟨bb, hb⟩ := Option.isSome_iff_exists.mp hb
  obtain ⟨t, ty, nf, _⟩ := ty_other T q sm rb hb
  obtain ⟨P, Z, p, hx⟩ := kit_of I ry ty
  cases e : C fi [va, vb] h with
  | ex _ _ => rw [e] at o; exact (show False from o).elim
  | no => rw [e] at o; exact (show False from o).elim
  | ok p' h3 =>
    rw [e] at o
    cases p' with
    | bl r =>
      have o2 : Out (zOf X) X.mg (RV (zOf X)) φ H (atS W σ) (fun z H' => z = .bl r ∧ Q (.bl (if ne then !r else r)) H') (C fi [va, vb] h) := by
        rw [e]
        intro φ' H' z x s r'
        exact ⟨r', (show Out (zOf X) X.mg (RV (zOf X)) φ H W' Q (.ok (.bl (if ne then !r else r)) h3) from o) φ' H' _ x s rfl⟩
      obtain ⟨fa, hM, run⟩ := own_call (us := [Value.ref ad, u]) G hcalm tk hr I e0 sm (RVs.cons ra (RVs.cons rb RVs.nil)) rfl (.cons rfl (.cons ry .nil)) o2
      refine ⟨ad, _, _, t, fa, rfl, J, Z.ty _ _ I.kIn p, nf, hM, wpAny_mono run (fun v s' hq => ?_) fun _ _ e => e⟩
      obtain ⟨z, H', I', rz, rfl, q3⟩ := hq
      obtain rfl : v = Value.bool r := rz
      exact ⟨r, rfl, .bl _, H', I', rfl, q3⟩
    | _ => exact (show False from o).elim
theorem op_oeq (T : ClI X.K c fs) (q : OwI X.K c) (G : MeI X.prog X.w X.K X.mg X.base C k c "__eq__" fi 2 []) (hcalm : X.calm = true) (hr : Room (2 * k + 4) X.A) (tk : L2N.Takes X W) : OpR X (compareOp .Eq) (rOeq X C c fi false) := by
  intro pins s σ H x y v u Q I rx ry hh
  obtain ⟨ad, od, ox, t, fa, rfl, J, lt, nf, hM, run⟩ := oeq_run T q G hcalm tk (hr.mono (by omega)) I I.env0 rx ry hh
  obtain ⟨m, hF⟩ := I.fr
  show wpAny (model X.prog X.w) X.A (richCompare .Eq (.ref ad) u) (EP X pins σ Q) X.xe s
  refine PySem.W.cmp_K hr.units0 hF I.ok.mod.kin J lt nf hM.at_ hM.fn (wpAny_mono run (fun v s' hq => ?_) fun _ _ e => e)
  obtain ⟨r, rfl, hq⟩ := hq
  exact hq
theorem op_onq (T : ClI X.K c fs) (q : OwI X.K c) (G : MeI X.prog X.w X.K X.mg X.base C k c "__eq__" fi 2 []) (hcalm : X.calm = true) (hr : Room (2 * k + 4) X.A) (tk : L2N.Takes X W) : OpR X (compareOp .NotEq) (rOeq X C c fi true) := by
  intro pins s σ H x y v u Q I rx ry hh
  obtain ⟨ad, od, ox, t, fa, rfl, J, lt, nf, hM, run⟩ := oeq_run T q G hcalm tk (Room.in1 hr) I I.env0.in1 rx ry hh
  obtain ⟨m, hF⟩ := I.fr
  show wpAny (model X.prog X.w) X.A (richCompare .NotEq (.ref ad) u) (EP X pins σ Q) X.xe s
  exact PySem.W.cmp_ne hr.units0 (Room.in1 hr).units0 hF I.ok.mod.kin J lt nf q.ne hM.at_ hM.fn q.own.hm (wpAny_mono run (fun v s' hq => hq) fun _ _ e => e)
theorem oeq_red {ne : Bool} {σ : L2.St} {H : Hp} {Q : VK} {ρ : Env} {φ : List Addr} {h : PH} (sm : Sim (zOf X) φ h H) (re : RE (zOf X) φ H ρ σ) (o : Out (zOf X) X.mg (RV (zOf X)) φ H (atS W σ) Q ((evG C ea false ρ h).bind fun x h1 => (evG C eb false ρ h1).bind fun y h2 => oeqF C c fi ne x y h2)) :
    tOp (rOeq X C c fi ne) (tE (zOf X) X.mg W C ea) (tE (zOf X) X.mg W C eb) σ H Q :=
  ⟨ρ, φ, h, sm, re, (Out.bind (rel2 := RV (zOf X)) o).imp fun x H1 ⟨φ1, va, h1, x1, s1, r1, o1⟩ => ⟨ρ, φ1, h1, s1, re.mono x1, (Out.bind (rel2 := RV (zOf X)) o1).imp fun y H2 ⟨φ2, vb, h2, x2, s2, r2, o2⟩ => ⟨φ2, h2, va, vb, _, s2, r1.mono x2, r2, o2⟩⟩⟩
theorem oeq_eq {ne t : Bool} {ρ : Env} {h : PH} : evG C (.oeq c fi ne ea eb) t ρ h = fin t ((evG C ea false ρ h).bind fun x h1 => (evG C eb false ρ h1).bind fun y h2 => oeqF C c fi ne x y h2) := by rw [evG]; rfl
theorem oeq_bl {ne : Bool} {x y : PV} {h h' : PH} {p : PV} (e : oeqF C c fi ne x y h = .ok p h') : ∃ r, p = .bl r := by
  unfold oeqF at e
  split at e
  · cases e2 : C fi [x, y] h with
    | ok v h3 =>
      rw [e2] at e
      cases v with
      | bl r => cases e; exact ⟨_, rfl⟩
      | _ => cases e
    | ex _ _ => rw [e2] at e; cases e
    | no => rw [e2] at e; cases e
  · cases e
theorem oeq_test {ne : Bool} {σ : L2.St} {H : Hp} {Q : Bool → Hp → Prop} {ρ : Env} {φ : List Addr} {h : PH} (o' : Out (zOf X) X.mg RI φ H (atS W σ) Q (asB (fin true ((evG C ea false ρ h).bind fun x h1 => (evG C eb false ρ h1).bind fun y h2 => oeqF C c fi ne x y h2)))) :
    Out (zOf X) X.mg (RV (zOf X)) φ H (atS W σ) (fun x H' => ∃ k, x = .bl k ∧ Q k H') ((evG C ea false ρ h).bind fun x h1 => (evG C eb false ρ h1).bind fun y h2 => oeqF C c fi ne x y h2) := by
  generalize hm : ((evG C ea false ρ h).bind fun x h1 => (evG C eb false ρ h1).bind fun y h2 => oeqF C c fi ne x y h2) = m at o'
  cases m with
  | ok p h' =>
    have hp : ∃ k, p = .bl k := by
      cases e1 : evG C ea false ρ h with
      | ok x h1 =>
        rw [e1, R.bind_ok] at hm
        cases e2 : evG C eb false ρ h1 with
        | ok y h2 =>
          rw [e2, R.bind_ok] at hm
          exact oeq_bl hm
        | ex _ _ => rw [e2] at hm; cases hm
        | no => rw [e2] at hm; cases hm
      | ex _ _ => rw [e1] at hm; cases hm
      | no => rw [e1] at hm; cases hm
    obtain ⟨k, rfl⟩ := hp
    intro φ' H' v x s r
    obtain rfl : v = .bl k := r
    exact ⟨k, rfl, o' φ' H' k x s rfl⟩
  | ex y h' => exact o'
  | no => exact o'
theorem je_oeq (T : ClI X.K c fs) (q : OwI X.K c) (G : MeI X.prog X.w X.K X.mg X.base C k c "__eq__" fi 2 []) (hcalm : X.calm = true) (hr : Room (2 * k + 4) X.A) (tk : L2N.Takes X W) (ha : JE X W C a ea) (hb : JE X W C b eb) (hm : behindInMarks .Eq b = false := by rfl) : JE X W C (.Compare a [.Eq] [b] pos) (.oeq c fi false ea eb) :=
  za5 (pe_cmpR (op_oeq T q G hcalm hr tk) ha hb hm) fun σ H Q ⟨ρ, φ, h, sm, re, o⟩ => oeq_red sm re (by rw [oeq_eq] at o; exact o)
theorem je_onq (T : ClI X.K c fs) (q : OwI X.K c) (G : MeI X.prog X.w X.K X.mg X.base C k c "__eq__" fi 2 []) (hcalm : X.calm = true) (hr : Room (2 * k + 4) X.A) (tk : L2N.Takes X W) (ha : JE X W C a ea) (hb : JE X W C b eb) (hm : behindInMarks .NotEq b = false := by rfl) : JE X W C (.Compare a [.NotEq] [b] pos) (.oeq c fi true ea eb) :=
  za5 (pe_cmpR (op_onq T q G hcalm hr tk) ha hb hm) fun σ H Q ⟨ρ, φ, h, sm, re, o⟩ => oeq_red sm re (by rw [oeq_eq] at o; exact o)
theorem jt_oeq (T : ClI X.K c fs) (q : OwI X.K c) (G : MeI X.prog X.w X.K X.mg X.base C k c "__eq__" fi 2 []) (hcalm : X.calm = true) (hr : Room (2 * k + 4) X.A) (tk : L2N.Takes X W) (ha : JE X W C a ea) (hb : JE X W C b eb) (hm : behindInMarks .Eq b = false := by rfl) : JT X W C (.Compare a [.Eq] [b] pos) (.oeq c fi false ea eb) :=
  pt_imp (pt_cmpR (op_oeq T q G hcalm hr tk) ha hb hm) fun σ H Q ⟨ρ, φ, h, sm, re, o⟩ => oeq_red sm re (oeq_test (by
    have o' : Out (zOf X) X.mg RI φ H (atS W σ) Q (asB (evG C (.oeq c fi false ea eb) true ρ h)) := o
    rw [oeq_eq] at o'
    exact o'))
end
structure MkK (P : Program) (w : World) (K : PySem.W.Frag) (mg : Str → Option Value) (base : Heap) (C : Calls) (k : Nat) (c : Str) (fi np : Nat) (ks : List Str) : Prop where
  ex : ∃ (fa : Addr) (fd : FuncData) (ps : List Str), ps.length = np ∧ FnOk P w K mg base (L2N.CX P w) (2 * k + 3) fa fd ps (spF ⟨K, [], P, w⟩ mg C fi np) ∧ Mk K (He.ga K c) fa ∧ mg c = some (.ref (He.ga K c)) ∧ KBn K fd ps 1 ks (fun us ws => pick (List.range np) (us ++ ws) ++ []) (fun vs zs => pick (List.range np) (vs ++ zs) ++ [])
section
variable {X : Cx} {W : WX} {C : Calls} {kws : List Keyword} {pos p : Pos} {ees : List E} {c : Str} {k fi np : Nat} {ks : List Str}
theorem pe_makeKS {CX : CXT} {fa CC : Addr} {n : Nat} {fd : FuncData} {ps : List Str} {sp : Sp} {E : L2.St → XK} {tk : TA} {g : List Value → List Value → List Value} {gV : List V → List V → List V} (M : Mk X.K CC fa) (F : FnOk X.prog X.w X.K X.mg X.base CX n fa fd ps sp) (hr : Room (n + 1) X.A) (hg : Gl X c) (hm : X.mg c = some (.ref CC)) (hb : KBn X.K fd ps 1 ks g gV) (hx : ∀ σ, PassesAt CX X σ (E σ)) (hkw : PK X kws tk)
    (hall : (backToKw pos (keywordEach kws X.env)).all (·.1.isSome) = true) (hks : (backToKw pos (keywordEach kws X.env)).filterMap (·.1) = ks) (hdb : (c == ("__debug__" : Str)) = false)
    (hpl : ((backTo pos (starEach [] X.env)).any (·.1) || (backToKw pos (keywordEach kws X.env)).any (·.1.isNone)) = false) :
    PE X (.Call (.Name c p) [] kws pos) (fun σ H Q => tk σ H fun zs H1 => zs.length = ks.length ∧ ∀ x dx, H1 x = none → H1 dx = none → dx ≠ x → sp (gV [.ref x] zs) (upd (upd H1 dx (.own x)) x (.ins CC dx [])) (fun v H2 => v = .non ∧ Q (.ref x) H2) (E σ)) := by
  refine ⟨fun pins s σ H Q I h => ?_⟩
  refine wpAny_Call_Name_kw (ld_glob I hg hm ?_ hdb)
  refine PySem.W.callWith_KW0 (h₀ := X.base) I.ok.mod.kin M.kp hall (thn (hkw.run pos pins s σ H _ I h) fun ws s2 ⟨zs, H2, I2, rz, l2, q2⟩ => ⟨I2.kIn, ?_⟩) hpl
  rw [hks]
  have hq := q2 (s2.heap.objs.size + 1) s2.heap.objs.size (I2.hok.fresh (Nat.le_succ _)) (I2.hok.fresh (Nat.le_refl _)) (Nat.ne_of_lt (Nat.lt_succ_self _))
  have I3 := Inv.made (C := CC) I2
  have r1 : Vals [V.ref (s2.heap.objs.size + 1)] [Value.ref (s2.heap.objs.size + 1)] := .cons rfl .nil
  refine wpAny_call (make_map (f := fa) I2.kIn M.makes M.init (beq_iff_eq.mp M.fn) (codeAny_mono (F.run _ X.stack _ _ ⟨[Value.ref (s2.heap.objs.size + 1)], ks.zip ws⟩ (g [Value.ref (s2.heap.objs.size + 1)] ws) _ _ (E σ) (hr.make CC [] (ks.zip ws))
    (I3.env0.make CC [] (ks.zip ws)) (hb.to _ [Value.ref (s2.heap.objs.size + 1)] ws I3.kIn rfl (by rw [← Paired.length rz]; exact l2)) (hb.rel r1 rz) hq) fun r s' hq' => ?_))
  cases r with
  | error e => exact hx σ pins _ _ e s' I3 hq'
  | ok fl =>
    cases fl with
    | ret u =>
      obtain ⟨v, H', I4, rv, ev, q3⟩ := I3.after hq'
      subst ev
      exact ⟨rv, ⟨V.ref (s2.heap.objs.size + 1), H', I4, rfl, q3⟩⟩
    | next => exact False.elim hq'
    | brk => exact False.elim hq'
    | cont => exact False.elim hq'
theorem je_makeK (G : MkK X.prog X.w X.K X.mg X.base C k c fi np ks) (hcalm : X.calm = true) (hr : Room (2 * k + 4) X.A) (tk : L2N.Takes X W) (ha : JK X W C kws ees) (hl : 1 + ees.length = np := by rfl) (hg : Gl X c := by rfl)
    (hall : (backToKw pos (keywordEach kws X.env)).all (·.1.isSome) = true := by rfl) (hks : (backToKw pos (keywordEach kws X.env)).filterMap (·.1) = ks := by rfl) (hn : ees.length = ks.length := by rfl) (hdb : (c == ("__debug__" : Str)) = false := by decide)
    (hpl : ((backTo pos (starEach [] X.env)).any (·.1) || (backToKw pos (keywordEach kws X.env)).any (·.1.isNone)) = false := by rfl) : JE X W C (.Call (.Name c p) [] kws pos) (.make c fi ees []) := by
  obtain ⟨fa, fd, ps, hps, F, hm, hmg, hb⟩ := G.ex
  have hz : zOf X = ⟨X.K, [], X.prog, X.w⟩ := z_calm hcalm
  rw [← hz] at F
  exact za5 (pe_makeKS hm F hr hg hmg hb (fun σ => L2N.passAt tk σ) ha hall hks hdb hpl) fun σ H Q ⟨ρ, φ, h, sm, re, oo⟩ => by
    have o' : Out (zOf X) X.mg (RV (zOf X)) φ H (atS W σ) Q ((evGs C ees ρ h).bind fun l h1 => (C fi (.ref h1.length :: (l ++ [])) (h1 ++ [.obj c []])).bind fun v h2 => isNew v h1.length h2) := oo
    refine ⟨ρ, φ, h, sm, re, ?_⟩
    cases e : evGs C ees ρ h with
    | ok l h1 =>
      rw [e, R.bind_ok] at o'
      intro φ' H' vs x s r
      have ll := evGs_length e
      have lv := r.length
      refine ⟨by omega, fun y dx n1 n2 ne => ?_⟩
      have key := make_red (fi := fi) (np := np) (by rw [List.length_append, List.length_nil]; omega) s (r.append RVs.nil) (o'.mono x) y dx n1 n2 ne
      have ep : pick (List.range np) ([V.ref y] ++ vs) ++ [] = V.ref y :: (vs ++ []) := by
        rw [List.append_nil, List.append_nil, show np = (V.ref y :: vs).length by rw [List.length_cons, ← lv]; omega]
        exact pick_range (V.ref y :: vs)
      rw [ep]
      exact key
    | ex y h1 => rw [e] at o'; exact o'
    | no => rw [e] at o'; exact o'
end
section
variable {X : Cx} {W : WX} {C : Calls} {a b : Expr} {ea eb : E} {pos p1 p2 p3 : Pos} {j : Nat} {x : Str}
theorem bi_str {W' : XK} : CallR X (.type "str") (rCa (zOf X) X.mg W' biStr) := by
  intro pins s σ H vs us Q I rv hh
  obtain ⟨φ, h, ps, sm, r, o⟩ := hh
  unfold biStr at o
  split at o
  · rename_i i
    split at o
    · rename_i hi
      obtain ⟨v, rfl, q⟩ := r.one
      obtain rfl : v = .int i := q
      exact call_str_int pins s σ H _ us Q I rv ⟨i, rfl, hi, o.at sm rfl⟩
    · exact (show False from o).elim
  · exact (show False from o).elim
/-- f"{a}..{b}", ints -/
theorem je_fs3 (ha : JE X W C a ea) (hb : JE X W C b eb) : JE X W C (.JoinedStr [.FormattedValue a (-1) none p1, .Constant (.str x) j p2, .FormattedValue b (-1) none p3] pos) (.bin .Add (.bin .Add (.bi .str1 [ea]) (.lit (.str x))) (.bi .str1 [eb])) := by
  refine za5 (pe_joined (PJ.cons (pe_fmt ha) (PJ.cons pe_str (PJ.cons (pe_fmt hb) PJ.nil)))) fun σ H Q ⟨ρ, φ, h, sm, re, o⟩ => ?_
  have s1 : ∀ (e : E) (h : PH), evG C (.bi .str1 [e]) false ρ h = (evG C e false ρ h).bind fun v h1 => biStr [v] h1 := fun e h => by
    have e2 : evGs C [e] ρ h = (evG C e false ρ h).bind fun x h1 => .ok [x] h1 := rfl
    rw [evG, e2]
    cases evG C e false ρ h <;> rfl
  have ee : evG C (.bin .Add (.bin .Add (.bi .str1 [ea]) (.lit (.str x))) (.bi .str1 [eb])) false ρ h = (evG C ea false ρ h).bind fun v h1 => (biStr [v] h1).bind fun s1 h2 => (binop .Add s1 (.str x) h2).bind fun s2 h3 => (evG C eb false ρ h3).bind fun u h4 => (biStr [u] h4).bind fun s3 h5 => binop .Add s2 s3 h5 := by
    have gb : ∀ (A B : E) (h : PH), evG C (.bin .Add A B) false ρ h = (evG C A false ρ h).bind fun x h1 => (evG C B false ρ h1).bind fun y h2 => binop .Add x y h2 := fun A B h => by rw [evG]; rfl
    have gl : ∀ h : PH, evG C (.lit (.str x)) false ρ h = .ok (.str x) h := fun h => by rw [evG]; rfl
    rw [gb, gb, s1]
    simp only [gl, s1]
    cases evG C ea false ρ h with
    | ok v h1 =>
      simp only [R.bind_ok]
      cases biStr [v] h1 with
      | ok s1' h2 =>
        simp only [R.bind_ok]
        cases binop .Add s1' (.str x) h2 with
        | ok s2 h3 =>
          simp only [R.bind_ok]
          cases evG C eb false ρ h3 <;> rfl
        | ex _ _ => rfl
        | no => rfl
      | ex _ _ => rfl
      | no => rfl
    | ex _ _ => rfl
    | no => rfl
  have o' : Out (zOf X) X.mg (RV (zOf X)) φ H (atS W σ) Q _ := o
  rw [ee] at o'
  refine ⟨ρ, φ, h, sm, re, (Out.bind (rel2 := RV (zOf X)) o').imp fun v H1 ⟨φ1, va, h1, x1, t1, r1, o1⟩ => ?_⟩
  cases va with
  | int i =>
    by_cases hi : i.natAbs.log2 < 1920
    · have e1 : biStr [.int i] h1 = .ok (.str (toString i)) h1 := if_pos hi
      rw [e1, R.bind_ok] at o1
      refine .inr ⟨i, r1, hi, toString i, rfl, ?_, ?_⟩
      · rw [Str.empty_append]
        exact int_text_fits hi
      · show ∃ y : Str, V.str x = .str y ∧ _
        refine ⟨x, rfl, ?_⟩
        by_cases hl : zaq ((toString i : Str).length + x.length) = true
        · have e2 : binop .Add (.str (toString i)) (.str x) h1 = .ok (.str ((toString i : Str) ++ x)) h1 := if_pos hl
          rw [e2, R.bind_ok] at o1
          refine ⟨?_, ρ, φ1, h1, t1, re.mono x1, (Out.bind (rel2 := RV (zOf X)) o1).imp fun u H2 ⟨φ2, ub, h2, x2, t2, r2, o2⟩ => ?_⟩
          · rw [Str.empty_append, Str.length_append]
            exact line_ok hl
          · cases ub with
            | int i2 =>
              by_cases hi2 : i2.natAbs.log2 < 1920
              · have e3 : biStr [.int i2] h2 = .ok (.str (toString i2)) h2 := if_pos hi2
                rw [e3, R.bind_ok] at o2
                refine .inr ⟨i2, r2, hi2, toString i2, rfl, ?_⟩
                by_cases hl2 : zaq (((toString i : Str) ++ x).length + (toString i2 : Str).length) = true
                · have e4 : binop .Add (.str ((toString i : Str) ++ x)) (.str (toString i2)) h2 = .ok (.str ((toString i : Str) ++ x ++ (toString i2 : Str))) h2 := if_pos hl2
                  rw [e4] at o2
                  rw [Str.empty_append]
                  refine ⟨?_, o2.at t2 rfl⟩
                  rw [Str.length_append]
                  exact line_ok hl2
                · have e4 : binop .Add (.str ((toString i : Str) ++ x)) (.str (toString i2)) h2 = .no := if_neg hl2
                  rw [e4] at o2
                  exact (show False from o2).elim
              · have e3 : biStr [.int i2] h2 = .no := if_neg hi2
                rw [e3] at o2
                exact (show False from o2).elim
            | _ => exact (show False from o2).elim
        · have e2 : binop .Add (.str (toString i)) (.str x) h1 = .no := if_neg hl
          rw [e2] at o1
          exact (show False from o1).elim
    · have e1 : biStr [.int i] h1 = .no := if_neg hi
      rw [e1] at o1
      exact (show False from o1).elim
  | _ => exact (show False from o1).elim
end
end Sb
namespace Sb
open PySem PySem.Spec L2
abbrev N_number_written : List Str := ["fraction", "top", "bottom"]
theorem sc_number_written : FnScope N_number_written ["fraction"] (defScope zar) := ⟨rfl, rfl, rfl, by decide +kernel, rfl, by decide +kernel, by decide +kernel⟩
abbrev N_move_text : List Str := ["move", "mark", "part"]
theorem sc_move_text : FnScope N_move_text ["move", "mark"] (defScope za7) := ⟨rfl, rfl, rfl, by decide +kernel, rfl, by decide +kernel, by decide +kernel⟩
abbrev N_heard_text : List Str := ["name", "move"]
theorem sc_heard_text : FnScope N_heard_text ["name", "move"] (defScope za8) := ⟨rfl, rfl, rfl, by decide +kernel, rfl, by decide +kernel, by decide +kernel⟩
abbrev N__law_start : List Str := ["_law_script", "_law_great", "_law_cell"]
theorem sc__law_start : FnScope N__law_start ["_law_script"] (defScope zas) := ⟨rfl, rfl, rfl, by decide +kernel, rfl, by decide +kernel, by decide +kernel⟩
abbrev N__law_draw : List Str := ["_law_state", "_law_many", "_law_told", "_law_size"]
theorem sc__law_draw : FnScope N__law_draw ["_law_state", "_law_many"] (defScope zbl) := ⟨rfl, rfl, rfl, by decide +kernel, rfl, by decide +kernel, by decide +kernel⟩
abbrev N__law_mix : List Str := ["_law_state", "_law_count", "_law_cell", "_law_one"]
theorem sc__law_mix : FnScope N__law_mix ["_law_state"] (defScope s__law_mix) := ⟨rfl, rfl, rfl, by decide +kernel, rfl, by decide +kernel, by decide +kernel⟩
abbrev N__law_same : List Str := ["_law_found", "_law_want", "_law_one", "_law_other"]
theorem sc__law_same : FnScope N__law_same ["_law_found", "_law_want"] (defScope za9) := ⟨rfl, rfl, rfl, by decide +kernel, rfl, by decide +kernel, by decide +kernel⟩
abbrev N__law_lowest : List Str := ["_law_top", "_law_bottom", "_law_one", "_law_other"]
theorem sc__law_lowest : FnScope N__law_lowest ["_law_top", "_law_bottom"] (defScope za2) := ⟨rfl, rfl, rfl, by decide +kernel, rfl, by decide +kernel, by decide +kernel⟩
abbrev N__law_part : List Str := ["_law_state", "_law_size"]
theorem sc__law_part : FnScope N__law_part ["_law_state"] (defScope zbk) := ⟨rfl, rfl, rfl, by decide +kernel, rfl, by decide +kernel, by decide +kernel⟩
abbrev N__law_lists : List Str := ["_law_state", "_law_labels", "_law_risen", "_law_gone", "_law_sounds", "_law_k", "_law_lead"]
theorem sc__law_lists : FnScope N__law_lists ["_law_state"] (defScope zat) := ⟨rfl, rfl, rfl, by decide +kernel, rfl, by decide +kernel, by decide +kernel⟩
abbrev N__law_number : List Str := ["_law_fraction"]
theorem sc__law_number : FnScope N__law_number ["_law_fraction"] (defScope za1) := ⟨rfl, rfl, rfl, by decide +kernel, rfl, by decide +kernel, by decide +kernel⟩
abbrev N__law_text : List Str := ["_law_lists_here", "_law_words", "_law_label", "_law_lead"]
theorem sc__law_text : FnScope N__law_text ["_law_lists_here"] (defScope za0) := ⟨rfl, rfl, rfl, by decide +kernel, rfl, by decide +kernel, by decide +kernel⟩
abbrev N__law_bent : List Str := ["_law_state", "_law_lists_here", "_law_rows", "_law_at", "_law_way", "_law_row"]
theorem sc__law_bent : FnScope N__law_bent ["_law_state", "_law_lists_here"] (defScope zba) := ⟨rfl, rfl, rfl, by decide +kernel, rfl, by decide +kernel, by decide +kernel⟩
abbrev N_law : List Str := ["_law_script", "_law_state", "_law_lists_here", "_law_handed", "_law_found", "_law_row", "_law_rows", "_law_other", "_law_alike"]
theorem sc_law : FnScope N_law ["_law_script"] (defScope s_law) := ⟨rfl, rfl, rfl, by decide +kernel, rfl, by decide +kernel, by decide +kernel⟩
abbrev N_News_init : List Str := ["self", "came", "went", "heard"]
theorem sc_News_init : FnScope N_News_init ["self", "came", "went", "heard"] (defScope zbm) := ⟨rfl, rfl, rfl, by decide +kernel, rfl, by decide +kernel, by decide +kernel⟩
abbrev N_News_eq : List Str := ["self", "other"]
theorem sc_News_eq : FnScope N_News_eq ["self", "other"] (defScope s_News_eq) := ⟨rfl, rfl, rfl, by decide +kernel, rfl, by decide +kernel, by decide +kernel⟩
abbrev N_News_len : List Str := ["self"]
theorem sc_News_len : FnScope N_News_len ["self"] (defScope s_News_len) := ⟨rfl, rfl, rfl, by decide +kernel, rfl, by decide +kernel, by decide +kernel⟩
abbrev N_News_str : List Str := ["self", "stood", "name", "move"]
theorem sc_News_str : FnScope N_News_str ["self"] (defScope za4) := ⟨rfl, rfl, rfl, by decide +kernel, rfl, by decide +kernel, by decide +kernel⟩
structure Fcts (K : PySem.W.Frag) (mg : Str → Option Value) : Prop where
  fr_abs : mg "abs" = none
  fr_all : mg "all" = none
  fr_bool : mg "bool" = none
  fr_int : mg "int" = none
  fr_isinstance : mg "isinstance" = none
  fr_len : mg "len" = none
  fr_list : mg "list" = none
  fr_range : mg "range" = none
  fr_str : mg "str" = none
  fr_sum : mg "sum" = none
  fr_tuple : mg "tuple" = none
  fr_zip : mg "zip" = none
  cl_News : mg "News" = some (.ref (He.ga K "News"))
  ci_News : ClI K "News" ["came", "went", "heard"]
  ow_News : OwI K "News"
structure Fns (P : Program) (w : World) (K : PySem.W.Frag) (mg : Str → Option Value) (base : Heap) (k : Nat) : Prop where
  g_number_written : FnI P w K mg base (call tbl k) k "number_written" 453 1 []
  g_move_text : FnI P w K mg base (call tbl k) k "move_text" 454 2 []
  g_heard_text : FnI P w K mg base (call tbl k) k "heard_text" 455 2 []
  g__law_start : FnI P w K mg base (call tbl k) k "_law_start" 4 1 []
  g__law_draw : FnI P w K mg base (call tbl k) k "_law_draw" 6 2 []
  g__law_mix : FnI P w K mg base (call tbl k) k "_law_mix" 5 1 []
  g__law_same : FnI P w K mg base (call tbl k) k "_law_same" 7 2 []
  g__law_lowest : FnI P w K mg base (call tbl k) k "_law_lowest" 9 2 []
  g__law_part : FnI P w K mg base (call tbl k) k "_law_part" 166 1 []
  g__law_lists : FnI P w K mg base (call tbl k) k "_law_lists" 167 1 []
  g__law_number : FnI P w K mg base (call tbl k) k "_law_number" 457 1 []
  g__law_text : FnI P w K mg base (call tbl k) k "_law_text" 458 1 []
  g__law_bent : FnI P w K mg base (call tbl k) k "_law_bent" 459 2 []
  g_law : FnI P w K mg base (call tbl k) k "law" 461 1 []
  mk_News : MkI P w K mg base (call tbl k) k "News" 211 4
  m_News_eq : MeI P w K mg base (call tbl k) k "News" "__eq__" 460 2 []
  m_News_len : MeI P w K mg base (call tbl k) k "News" "__len__" 452 1 []
  m_News_str : MeI P w K mg base (call tbl k) k "News" "__str__" 456 1 []
  mkk_News : MkK P w K mg base (call tbl k) k "News" 211 4 ["came", "went", "heard"]
section
variable {P : Program} {w : World} {K : PySem.W.Frag} {mg : Str → Option Value} {base : Heap} {k : Nat} {f : Addr} {cdv : Value} {A : Around} {outer : List PySem.Env} {s : Shared} {H : Hp} {E : XK}
theorem jb_number_written (T : Fcts K mg) (G : Fns P w K mg base k) (c : Cq (cxOf (L2N.CX P w) P w K mg base N_number_written "number_written" (defScope zar) f cdv A outer s H E) (fun c d _ H => E c d H) k) :
    JSs (cxOf (L2N.CX P w) P w K mg base N_number_written "number_written" (defScope zar) f cdv A outer s H E) (fun c d _ H => E c d H) (call tbl k) (defBody zar) F_number_written.body :=
  (zac (js_tup (is := [1, 2]) (zaa 0) (tg_tup' c.calm (tgs_cons (i := 1) c.nd (tgs_cons (i := 2) c.nd tgs_nil))))
  (zac (zau (je_ite (zbd c.hr.u66 (zaa 2) zaf) (je_biT .str1 (fun _ => bi_str) T.fr_str (by decide +kernel) (zab (zaa 1) zae)) (je_fs3 (zaa 1) (zaa 2))))
  zag))
theorem jb_move_text (T : Fcts K mg) (G : Fns P w K mg base k) (c : Cq (cxOf (L2N.CX P w) P w K mg base N_move_text "move_text" (defScope za7) f cdv A outer s H E) (fun c d _ H => E c d H) k) :
    JSs (cxOf (L2N.CX P w) P w K mg base N_move_text "move_text" (defScope za7) f cdv A outer s H E) (fun c d _ H => E c d H) (call tbl k) (defBody za7) F_move_text.body :=
  (zac (zau (je_mth .join PySem.F.plainAttrs_str PySem.F.slot_str_join PySem.F.type_str_join (fun _ => mt_join_ok) (zaa 1) (zab (je_comp (own := [("part", 2)]) (is := [2]) (one := .one) c.calm c.nd (ji_seq (zaa 0)) (blkOk_by (own := [("part", 2)]) (N := N_move_text) (sc := defScope za7) (by decide +kernel)) (fun sB HB CB clB fpB => (tg_one (c.blk sB HB _ _ fpB).nd)) (fun sB HB CB clB fpB => cd_none) (fun sB HB CB clB fpB => (zam G.g_number_written (c.blk sB HB _ _ fpB).calm (c.blk sB HB _ _ fpB).hr (c.blk sB HB _ _ fpB).tk (zab (zaa 2) zae)))) zae)))
  zag)
theorem jb_heard_text (T : Fcts K mg) (G : Fns P w K mg base k) (c : Cq (cxOf (L2N.CX P w) P w K mg base N_heard_text "heard_text" (defScope za8) f cdv A outer s H E) (fun c d _ H => E c d H) k) :
    JSs (cxOf (L2N.CX P w) P w K mg base N_heard_text "heard_text" (defScope za8) f cdv A outer s H E) (fun c d _ H => E c d H) (call tbl k) (defBody za8) F_heard_text.body :=
  (zac (zau (zak (zak (zaa 0) zbe) (je_ite (zbd c.hr.u66 (zaa 1) je_non) zbe (zam G.g_move_text c.calm c.hr c.tk (zab (zaa 1) (zab zbe zae))))))
  zag)
theorem jb__law_start (T : Fcts K mg) (G : Fns P w K mg base k) (c : Cq (cxOf (L2N.CX P w) P w K mg base N__law_start "_law_start" (defScope zas) f cdv A outer s H E) (fun c d _ H => E c d H) k) :
    JSs (cxOf (L2N.CX P w) P w K mg base N__law_start "_law_start" (defScope zas) f cdv A outer s H E) (fun c d _ H => E c d H) (call tbl k) (defBody zas) F_law_start.body :=
  (zac (js_setC (i := 1) (own := [("_law_cell", 2)]) (is := [2]) (one := .one) c.calm c.nd (ji_seq (zaa 0)) (blkOk_by (own := [("_law_cell", 2)]) (N := N__law_start) (sc := defScope zas) (by decide +kernel)) (fun sB HB CB clB fpB => (tg_one (c.blk sB HB _ _ fpB).nd)) (fun sB HB CB clB fpB => cd_some (zbd (c.blk sB HB _ _ fpB).hr.u66 (zaa 2) (zak zaf zaf))) (fun sB HB CB clB fpB => (zaa 2)))
  (zac (zau (je_lst (zab (zaa 1) (zab zaf (zab (je_comp (own := [("_law_cell", 2)]) (is := [2]) (one := .one) c.calm c.nd (ji_seq (zaa 0)) (blkOk_by (own := [("_law_cell", 2)]) (N := N__law_start) (sc := defScope zas) (by decide +kernel)) (fun sB HB CB clB fpB => (tg_one (c.blk sB HB _ _ fpB).nd)) (fun sB HB CB clB fpB => cd_none) (fun sB HB CB clB fpB => (zak (zaa 2) zaf))) (zab zaf zae))))))
  zag))
theorem jb__law_draw (T : Fcts K mg) (G : Fns P w K mg base k) (c : Cq (cxOf (L2N.CX P w) P w K mg base N__law_draw "_law_draw" (defScope zbl) f cdv A outer s H E) (fun c d _ H => E c d H) k) :
    JSs (cxOf (L2N.CX P w) P w K mg base N__law_draw "_law_draw" (defScope zbl) f cdv A outer s H E) (fun c d _ H => E c d H) (call tbl k) (defBody zbl) F_law_draw.body :=
  (zac (js_if (jt_bool (jw_and (zbd c.hr.u66 (zaj c.hr.u66 (zaa 0) zaf) zaf) (jw_and1 (jt_val (zaj c.hr.u66 (zaa 0) zaf))))) (zac (js_sub c.hr.u66 (je_mth .popAt PySem.F.plainAttrs_list PySem.F.slot_list_pop PySem.F.type_list_pop (fun _ => mt_popAt_ok) (zaj c.hr.u66 (zaa 0) zaf) (zab zaf zae)) (zaa 0) zaf)
  zag) zag)
  (zac (js_if (zbd c.hr.u66 (zaj c.hr.u66 (zaa 0) zaf) zaf) (zac (zaz (i := 2) c.nd (zak (zaj c.hr.u66 (zaa 0) zaf) (zaa 1)))
  (zac (js_sub c.hr.u66 (zak (zaj c.hr.u66 (zaa 0) zaf) (zaa 1)) (zaa 0) zaf)
  (zac (zau (zaa 2))
  zag))) zag)
  (zac (zaz (i := 2) c.nd zaf)
  (zac (zaz (i := 3) c.nd zaf)
  (zac (js_while0 c.po (zbd c.hr.u66 (zaa 3) (zaa 1)) (zac (zaz (i := 2) c.nd (zak (zak (zaa 2) zaf) (zam G.g__law_mix c.calm c.hr c.tk (zab (zaa 0) zae))))
  (zac (zaz (i := 3) c.nd (zak (zaa 3) zaf))
  zag)))
  (zac (zau (zak (zaa 2) (zaa 1)))
  zag))))))
theorem jb__law_mix (T : Fcts K mg) (G : Fns P w K mg base k) (c : Cq (cxOf (L2N.CX P w) P w K mg base N__law_mix "_law_mix" (defScope s__law_mix) f cdv A outer s H E) (fun c d _ H => E c d H) k) :
    JSs (cxOf (L2N.CX P w) P w K mg base N__law_mix "_law_mix" (defScope s__law_mix) f cdv A outer s H E) (fun c d _ H => E c d H) (call tbl k) (defBody s__law_mix) F_law_mix.body :=
  (zac (js_augs c.hr.u66 (zaa 0) zaf zaf)
  (zac (zaz (i := 1) c.nd (zaj c.hr.u66 (zaa 0) zaf))
  (zac (zaz (i := 2) c.nd zaf)
  (zac (js_if (jt_val (zaj c.hr.u66 (zaa 0) zaf)) (zac (zaz (i := 2) c.nd (zaj c.hr.u66 (zaj c.hr.u66 (zaa 0) zaf) (zak (zaa 1) (je_bi .len (fun _ => bi_len) T.fr_len (by decide +kernel) (zab (zaj c.hr.u66 (zaa 0) zaf) zae)))))
  zag) zag)
  (zac (zaz (i := 3) c.nd (zak (zak (zak (zak (zak (zaa 2) (zak (zak zaf (zaa 1)) (zaa 1))) (zak zaf (zaa 1))) zaf) zaf) zaf))
  (zac (zau (zak (zak (zak (zaa 3) zaf) (zak zaf (zaa 1))) zaf))
  zag))))))
theorem jb__law_same (T : Fcts K mg) (G : Fns P w K mg base k) (c : Cq (cxOf (L2N.CX P w) P w K mg base N__law_same "_law_same" (defScope za9) f cdv A outer s H E) (fun c d _ H => E c d H) k) :
    JSs (cxOf (L2N.CX P w) P w K mg base N__law_same "_law_same" (defScope za9) f cdv A outer s H E) (fun c d _ H => E c d H) (call tbl k) (defBody za9) F_law_same.body :=
  (zac (js_if (jt_val (je_bi .isinst (fun _ => zbj) T.fr_isinstance (by decide +kernel) (zab (zaa 1) (zab (je_tup (zab (je_ty .tuple T.fr_tuple (by decide +kernel)) (zab (je_ty .list T.fr_list (by decide +kernel)) zae))) zae)))) (zac (js_if (zbd c.hr.u66 (je_bi .isinst (fun _ => zbj) T.fr_isinstance (by decide +kernel) (zab (zaa 0) (zab (je_ty .tuple T.fr_tuple (by decide +kernel)) zae))) (je_bi .isinst (fun _ => zbj) T.fr_isinstance (by decide +kernel) (zab (zaa 1) (zab (je_ty .tuple T.fr_tuple (by decide +kernel)) zae)))) (zac (zau je_bl)
  zag) zag)
  (zac (js_if (jt_bool (jw_or (zbd c.hr.u66 (je_bi .isinst (fun _ => zbj) T.fr_isinstance (by decide +kernel) (zab (zaa 0) (zab (je_ty .list T.fr_list (by decide +kernel)) zae))) (je_bi .isinst (fun _ => zbj) T.fr_isinstance (by decide +kernel) (zab (zaa 1) (zab (je_ty .list T.fr_list (by decide +kernel)) zae)))) (jw_or1 (zbd c.hr.u66 (je_bi .len (fun _ => bi_len) T.fr_len (by decide +kernel) (zab (zaa 0) zae)) (je_bi .len (fun _ => bi_len) T.fr_len (by decide +kernel) (zab (zaa 1) zae)))))) (zac (zau je_bl)
  zag) zag)
  (zac (zau (je_bi .all (fun _ => (bi_all c.calm)) T.fr_all (by decide +kernel) (zab (je_comp (own := [("_law_one", 2), ("_law_other", 3)]) (is := [2, 3]) (one := .tup) c.calm c.nd (ji_zip T.fr_zip (zab (zaa 0) (zab (zaa 1) zae))) (blkOk_by (own := [("_law_one", 2), ("_law_other", 3)]) (N := N__law_same) (sc := defScope za9) (by decide +kernel)) (fun sB HB CB clB fpB => (tg_tup (c.blk sB HB _ _ fpB).calm (tgs_cons (i := 2) (c.blk sB HB _ _ fpB).nd (tgs_cons (i := 3) (c.blk sB HB _ _ fpB).nd tgs_nil)))) (fun sB HB CB clB fpB => cd_none) (fun sB HB CB clB fpB => (zam G.g__law_same (c.blk sB HB _ _ fpB).calm (c.blk sB HB _ _ fpB).hr (c.blk sB HB _ _ fpB).tk (zab (zaa 2) (zab (zaa 3) zae))))) zae)))
  zag))) zag)
  (zac (js_if (zbd c.hr.u66 (zaa 1) je_non) (zac (zau (je_cmp c.hr.u66 (zaa 0) je_non))
  zag) zag)
  (zac (js_if (jt_val (je_bi .isinst (fun _ => zbj) T.fr_isinstance (by decide +kernel) (zab (zaa 1) (zab (je_ty .str T.fr_str (by decide +kernel)) zae)))) (zac (zau (je_and (je_bi .isinst (fun _ => zbj) T.fr_isinstance (by decide +kernel) (zab (zaa 0) (zab (je_ty .str T.fr_str (by decide +kernel)) zae))) (je_one (je_cmp c.hr.u66 (zaa 0) (zaa 1)))))
  zag) zag)
  (zac (zau (je_and (je_bi .isinst (fun _ => zbj) T.fr_isinstance (by decide +kernel) (zab (zaa 0) (zab (je_ty .int T.fr_int (by decide +kernel)) zae))) (je_and (je_cmp c.hr.u66 (je_bi .isinst (fun _ => zbj) T.fr_isinstance (by decide +kernel) (zab (zaa 0) (zab (je_ty .bool T.fr_bool (by decide +kernel)) zae))) (je_bi .isinst (fun _ => zbj) T.fr_isinstance (by decide +kernel) (zab (zaa 1) (zab (je_ty .bool T.fr_bool (by decide +kernel)) zae)))) (je_one (je_cmp c.hr.u66 (zaa 0) (zaa 1))))))
  zag))))
theorem jb__law_lowest (T : Fcts K mg) (G : Fns P w K mg base k) (c : Cq (cxOf (L2N.CX P w) P w K mg base N__law_lowest "_law_lowest" (defScope za2) f cdv A outer s H E) (fun c d _ H => E c d H) k) :
    JSs (cxOf (L2N.CX P w) P w K mg base N__law_lowest "_law_lowest" (defScope za2) f cdv A outer s H E) (fun c d _ H => E c d H) (call tbl k) (defBody za2) F_law_lowest.body :=
  (zac (zaz (i := 2) c.nd (je_bi .abs (fun _ => bi_abs) T.fr_abs (by decide +kernel) (zab (zaa 0) zae)))
  (zac (zaz (i := 3) c.nd (je_bi .abs (fun _ => bi_abs) T.fr_abs (by decide +kernel) (zab (zaa 1) zae)))
  (zac (js_while0 c.po (zbd c.hr.u66 (zaa 3) zaf) (zac (js_par (i := 2) (j := 3) c.calm c.nd (zab (zaa 3) (zab (zak (zaa 2) (zaa 3)) zae)))
  zag))
  (zac (js_if (zbd c.hr.u66 (zaa 1) zaf) (zac (zaz (i := 2) c.nd (zak zaf (zaa 2)))
  zag) zag)
  (zac (zau (je_tup (zab (zak (zaa 0) (zaa 2)) (zab (zak (zaa 1) (zaa 2)) zae))))
  zag)))))
theorem jb__law_part (T : Fcts K mg) (G : Fns P w K mg base k) (c : Cq (cxOf (L2N.CX P w) P w K mg base N__law_part "_law_part" (defScope zbk) f cdv A outer s H E) (fun c d _ H => E c d H) k) :
    JSs (cxOf (L2N.CX P w) P w K mg base N__law_part "_law_part" (defScope zbk) f cdv A outer s H E) (fun c d _ H => E c d H) (call tbl k) (defBody zbk) F_law_part_2.body :=
  (zac (zaz (i := 1) c.nd (zaj c.hr.u66 (je_lst (zab zaf (zab zaf (zab (zak (zak zaf zaf) zaf) zae)))) (zam G.g__law_draw c.calm c.hr c.tk (zab (zaa 0) (zab zaf zae)))))
  (zac (zau (zam G.g__law_lowest c.calm c.hr c.tk (zab (zak (zam G.g__law_draw c.calm c.hr c.tk (zab (zaa 0) (zab (zak (zak zaf (zaa 1)) zaf) zae))) (zaa 1)) (zab (zak zaf (zam G.g__law_draw c.calm c.hr c.tk (zab (zaa 0) (zab (zaa 1) zae)))) zae))))
  zag))
theorem jb__law_lists (T : Fcts K mg) (G : Fns P w K mg base k) (c : Cq (cxOf (L2N.CX P w) P w K mg base N__law_lists "_law_lists" (defScope zat) f cdv A outer s H E) (fun c d _ H => E c d H) k) :
    JSs (cxOf (L2N.CX P w) P w K mg base N__law_lists "_law_lists" (defScope zat) f cdv A outer s H E) (fun c d _ H => E c d H) (call tbl k) (defBody zat) F_law_lists.body :=
  (zac (zaz (i := 1) c.nd (je_lst (zab zbe (zab zbe (zab zbe (zab zbe (zab zbe zae)))))))
  (zac (js_setC (i := 2) (own := [("_law_k", 5)]) (is := [5]) (one := .one) c.calm c.nd (ji_range T.fr_range (zab (zam G.g__law_draw c.calm c.hr c.tk (zab (zaa 0) (zab zaf zae))) zae)) (blkOk_by (own := [("_law_k", 5)]) (N := N__law_lists) (sc := defScope zat) (by decide +kernel)) (fun sB HB CB clB fpB => (tg_one (c.blk sB HB _ _ fpB).nd)) (fun sB HB CB clB fpB => cd_none) (fun sB HB CB clB fpB => (zaj (c.blk sB HB _ _ fpB).hr.u66 (zaa 1) (zam G.g__law_draw (c.blk sB HB _ _ fpB).calm (c.blk sB HB _ _ fpB).hr (c.blk sB HB _ _ fpB).tk (zab (zaa 0) (zab zaf zae))))))
  (zac (js_setC (i := 3) (own := [("_law_k", 5)]) (is := [5]) (one := .one) c.calm c.nd (ji_range T.fr_range (zab (zam G.g__law_draw c.calm c.hr c.tk (zab (zaa 0) (zab zaf zae))) zae)) (blkOk_by (own := [("_law_k", 5)]) (N := N__law_lists) (sc := defScope zat) (by decide +kernel)) (fun sB HB CB clB fpB => (tg_one (c.blk sB HB _ _ fpB).nd)) (fun sB HB CB clB fpB => cd_none) (fun sB HB CB clB fpB => (zaj (c.blk sB HB _ _ fpB).hr.u66 (zaa 1) (zam G.g__law_draw (c.blk sB HB _ _ fpB).calm (c.blk sB HB _ _ fpB).hr (c.blk sB HB _ _ fpB).tk (zab (zaa 0) (zab zaf zae))))))
  (zac (zaz (i := 4) c.nd (je_lst zae))
  (zac (js_for0 (is := [5]) (one := .one) c.po c.calm (ji_range T.fr_range (zab (zam G.g__law_draw c.calm c.hr c.tk (zab (zaa 0) (zab zaf zae))) zae)) (tg_one c.nd) (zac (zaz (i := 6) c.nd (je_tup (zab (zam G.g__law_part c.calm c.hr c.tk (zab (zaa 0) zae)) (zab (zam G.g__law_part c.calm c.hr c.tk (zab (zaa 0) zae)) zae))))
  (zac (js_expr (je_mth .append PySem.F.plainAttrs_list PySem.F.slot_list_append PySem.F.type_list_append (fun _ => mt_append_ok) (zaa 4) (zab (je_tup (zab (zaj c.hr.u66 (zaa 1) (zam G.g__law_draw c.calm c.hr c.tk (zab (zaa 0) (zab zaf zae)))) (zab (zaj c.hr.u66 (je_lst (zab (zaa 6) (zab je_non zae))) (je_biT .int1 (fun _ => bi_int) T.fr_int (by decide +kernel) (zab (je_cmp c.hr.u66 (zam G.g__law_draw c.calm c.hr c.tk (zab (zaa 0) (zab zaf zae))) zaf) zae))) zae))) zae)))
  zag)))
  (zac (zau (je_lst (zab (zaa 2) (zab (zaa 3) (zab (zaa 4) zae)))))
  zag))))))
theorem jb__law_number (T : Fcts K mg) (G : Fns P w K mg base k) (c : Cq (cxOf (L2N.CX P w) P w K mg base N__law_number "_law_number" (defScope za1) f cdv A outer s H E) (fun c d _ H => E c d H) k) :
    JSs (cxOf (L2N.CX P w) P w K mg base N__law_number "_law_number" (defScope za1) f cdv A outer s H E) (fun c d _ H => E c d H) (call tbl k) (defBody za1) F_law_number_3.body :=
  (zac (zau (zak (je_biT .str1 (fun _ => bi_str) T.fr_str (by decide +kernel) (zab (zaj c.hr.u66 (zaa 0) zaf) zae)) (zak (zak zbe (je_biT .str1 (fun _ => bi_str) T.fr_str (by decide +kernel) (zab (zaj c.hr.u66 (zaa 0) zaf) zae))) (je_biT .int1 (fun _ => bi_int) T.fr_int (by decide +kernel) (zab (je_cmp c.hr.u66 (zaj c.hr.u66 (zaa 0) zaf) zaf) zae)))))
  zag)
theorem jb__law_text (T : Fcts K mg) (G : Fns P w K mg base k) (c : Cq (cxOf (L2N.CX P w) P w K mg base N__law_text "_law_text" (defScope za0) f cdv A outer s H E) (fun c d _ H => E c d H) k) :
    JSs (cxOf (L2N.CX P w) P w K mg base N__law_text "_law_text" (defScope za0) f cdv A outer s H E) (fun c d _ H => E c d H) (call tbl k) (defBody za0) F_law_text.body :=
  (zac (zaz (i := 1) c.nd (zak (je_comp (own := [("_law_label", 2)]) (is := [2]) (one := .one) c.calm c.nd (ji_seq (zaj c.hr.u66 (zaa 0) zaf)) (blkOk_by (own := [("_law_label", 2)]) (N := N__law_text) (sc := defScope za0) (by decide +kernel)) (fun sB HB CB clB fpB => (tg_one (c.blk sB HB _ _ fpB).nd)) (fun sB HB CB clB fpB => cd_none) (fun sB HB CB clB fpB => (zak zbe (zaa 2)))) (je_comp (own := [("_law_label", 2)]) (is := [2]) (one := .one) c.calm c.nd (ji_seq (zaj c.hr.u66 (zaa 0) zaf)) (blkOk_by (own := [("_law_label", 2)]) (N := N__law_text) (sc := defScope za0) (by decide +kernel)) (fun sB HB CB clB fpB => (tg_one (c.blk sB HB _ _ fpB).nd)) (fun sB HB CB clB fpB => cd_none) (fun sB HB CB clB fpB => (zak zbe (zaa 2))))))
  (zac (js_for0 (is := [2, 3]) (one := .tup) c.po c.calm (ji_seq (zaj c.hr.u66 (zaa 0) zaf)) (tg_tup c.calm (tgs_cons (i := 2) c.nd (tgs_cons (i := 3) c.nd tgs_nil))) (zac (js_expr (je_mth .append PySem.F.plainAttrs_list PySem.F.slot_list_append PySem.F.type_list_append (fun _ => mt_append_ok) (zaa 1) (zab (zak (zak (zaa 2) zbe) (je_ite (zbd c.hr.u66 (zaa 3) je_non) zbe (zak (zak (zam G.g__law_number c.calm c.hr c.tk (zab (zaj c.hr.u66 (zaa 3) zaf) zae)) zbe) (zam G.g__law_number c.calm c.hr c.tk (zab (zaj c.hr.u66 (zaa 3) zaf) zae))))) zae)))
  zag))
  (zac (zau (je_mth .join PySem.F.plainAttrs_str PySem.F.slot_str_join PySem.F.type_str_join (fun _ => mt_join_ok) zbe (zab (zaa 1) zae)))
  zag)))
theorem jb__law_bent (T : Fcts K mg) (G : Fns P w K mg base k) (c : Cq (cxOf (L2N.CX P w) P w K mg base N__law_bent "_law_bent" (defScope zba) f cdv A outer s H E) (fun c d _ H => E c d H) k) :
    JSs (cxOf (L2N.CX P w) P w K mg base N__law_bent "_law_bent" (defScope zba) f cdv A outer s H E) (fun c d _ H => E c d H) (call tbl k) (defBody zba) F_law_bent_2.body :=
  (zac (js_setC (i := 2) (own := [("_law_row", 5)]) (is := [5]) (one := .one) c.calm c.nd (ji_seq (zaa 1)) (blkOk_by (own := [("_law_row", 5)]) (N := N__law_bent) (sc := defScope zba) (by decide +kernel)) (fun sB HB CB clB fpB => (tg_one (c.blk sB HB _ _ fpB).nd)) (fun sB HB CB clB fpB => cd_none) (fun sB HB CB clB fpB => (je_biT .listOf (fun _ => (bi_list (c.blk sB HB _ _ fpB).calm)) T.fr_list (by decide +kernel) (zab (zaa 5) zae))))
  (zac (zaz (i := 3) c.nd (zam G.g__law_draw c.calm c.hr c.tk (zab (zaa 0) (zab zaf zae))))
  (zac (zaz (i := 4) c.nd (zam G.g__law_draw c.calm c.hr c.tk (zab (zaa 0) (zab zaf zae))))
  (zac (js_if (zbd c.hr.u66 (zaa 4) zaf) (zac (js_expr (je_mth .append PySem.F.plainAttrs_list PySem.F.slot_list_append PySem.F.type_list_append (fun _ => mt_append_ok) (zaj c.hr.u66 (zaa 2) (zaa 3)) (zab (zaj c.hr.u66 (je_lst (zab zbe (zab zbe (zab (je_tup (zab zbe (zab je_non zae))) zae)))) (zaa 3)) zae)))
  zag) zag)
  (zac (js_if (jt_bool (jw_and (zbd c.hr.u66 (zaa 4) zaf) (jw_and1 (jt_val (zaj c.hr.u66 (zaa 2) (zaa 3)))))) (zac (js_expr (je_mth .popAt PySem.F.plainAttrs_list PySem.F.slot_list_pop PySem.F.type_list_pop (fun _ => mt_popAt_ok) (zaj c.hr.u66 (zaa 2) (zaa 3)) (zab (zam G.g__law_draw c.calm c.hr c.tk (zab (zaa 0) (zab (je_bi .len (fun _ => bi_len) T.fr_len (by decide +kernel) (zab (zaj c.hr.u66 (zaa 2) (zaa 3)) zae)) zae))) zae)))
  zag) zag)
  (zac (js_if (zbd c.hr.u66 (zaa 4) zaf) (zac (js_sub2 c.calm c.hr.u66 (je_tup (zab (zaj c.hr.u66 (zaa 2) zaf) (zab (zaj c.hr.u66 (zaa 2) zaf) zae))) (zaa 2) zaf (zaa 2) zaf)
  zag) zag)
  (zac (js_if (zbd c.hr.u66 (zaa 4) zaf) (zac (js_sub c.hr.u66 (je_rev (zaj c.hr.u66 (zaa 2) (zaa 3))) (zaa 2) (zaa 3))
  zag) zag)
  (zac (js_if (jt_bool (jw_and (zbd c.hr.u66 (zaa 4) zaf) (jw_and1 (jt_val (zaj c.hr.u66 (zaa 2) zaf))))) (zac (js_sub c.hr.u66 (je_tup (zab (zaj c.hr.u66 (zaj c.hr.u66 (zaj c.hr.u66 (zaa 2) zaf) zaf) zaf) (zab (je_tup (zab (je_tup (zab zaf (zab zaf zae))) (zab (je_tup (zab (zam G.g__law_draw c.calm c.hr c.tk (zab (zaa 0) (zab zaf zae))) (zab zaf zae))) zae))) zae))) (zaj c.hr.u66 (zaa 2) zaf) zaf)
  zag) zag)
  (zac (zau (zaa 2))
  zag)))))))))
theorem jb_law (T : Fcts K mg) (G : Fns P w K mg base k) (c : Cq (cxOf (L2N.CX P w) P w K mg base N_law "law" (defScope s_law) f cdv A outer s H E) (fun c d _ H => E c d H) k) :
    JSs (cxOf (L2N.CX P w) P w K mg base N_law "law" (defScope s_law) f cdv A outer s H E) (fun c d _ H => E c d H) (call tbl k) (defBody s_law) F_law_51.body :=
  (zac (zaz (i := 1) c.nd (zam G.g__law_start c.calm c.hr c.tk (zab (zaa 0) zae)))
  (zac (zaz (i := 2) c.nd (zam G.g__law_lists c.calm c.hr c.tk (zab (zaa 1) zae)))
  (zac (js_setC (i := 3) (own := [("_law_row", 5)]) (is := [5]) (one := .one) c.calm c.nd (ji_seq (zaa 2)) (blkOk_by (own := [("_law_row", 5)]) (N := N_law) (sc := defScope s_law) (by decide +kernel)) (fun sB HB CB clB fpB => (tg_one (c.blk sB HB _ _ fpB).nd)) (fun sB HB CB clB fpB => cd_none) (fun sB HB CB clB fpB => (je_biT .listOf (fun _ => (bi_list (c.blk sB HB _ _ fpB).calm)) T.fr_list (by decide +kernel) (zab (zaa 5) zae))))
  (zac (zaz (i := 4) c.nd (je_make G.mk_News c.calm c.hr c.tk (zab (zaj c.hr.u66 (zaa 3) zaf) (zab (zaj c.hr.u66 (zaa 3) zaf) (zab (zaj c.hr.u66 (zaa 3) zaf) zae)))))
  (zac (js_if (zbd c.hr.u66 (zam G.g__law_draw c.calm c.hr c.tk (zab (zaa 1) (zab zaf zae))) zaf) (zac (zaz (i := 4) c.nd (je_makeK G.mkk_News c.calm c.hr c.tk (jk_cons (je_biT .tupleOf (fun _ => bi_tuple) T.fr_tuple (by decide +kernel) (zab (zaj c.hr.u66 (zaa 3) zaf) zae)) (jk_cons (je_biT .tupleOf (fun _ => bi_tuple) T.fr_tuple (by decide +kernel) (zab (zaj c.hr.u66 (zaa 3) zaf) zae)) (jk_cons (je_biT .tupleOf (fun _ => bi_tuple) T.fr_tuple (by decide +kernel) (zab (zaj c.hr.u66 (zaa 3) zaf) zae)) jk_nil)))))
  zag) zag)
  (zac (js_for0 (is := [5]) (one := .one) c.po c.calm (ji_seq (zaa 3)) (tg_one c.nd) (zac (js_expr (je_mth .append PySem.F.plainAttrs_list PySem.F.slot_list_append PySem.F.type_list_append (fun _ => mt_append_ok) (zaa 5) (zab zbe zae)))
  zag))
  (zac (js_if (jt_not (jt_val (zam G.g__law_same c.calm c.hr c.tk (zab (je_lst (zab (je_fld T.ci_News (by decide) (zaa 4)) (zab (je_fld T.ci_News (by decide) (zaa 4)) (zab (je_fld T.ci_News (by decide) (zaa 4)) zae)))) (zab (zaa 2) zae))))) (zac (zau je_bl)
  zag) zag)
  (zac (js_if (jt_bool (jw_or (jt_not (jt_val (zam G.g__law_same c.calm c.hr c.tk (zab (je_lenO T.ow_News G.m_News_len c.calm c.hr c.tk T.fr_len (zaa 4)) (zab (je_bi .sum (fun _ => (bi_sum c.calm)) T.fr_sum (by decide +kernel) (zab (je_comp (own := [("_law_row", 5)]) (is := [5]) (one := .one) c.calm c.nd (ji_seq (zaa 2)) (blkOk_by (own := [("_law_row", 5)]) (N := N_law) (sc := defScope s_law) (by decide +kernel)) (fun sB HB CB clB fpB => (tg_one (c.blk sB HB _ _ fpB).nd)) (fun sB HB CB clB fpB => cd_none) (fun sB HB CB clB fpB => (je_bi .len (fun _ => bi_len) T.fr_len (by decide +kernel) (zab (zaa 5) zae)))) zae)) zae))))) (jw_or1 (jt_not (jt_val (zam G.g__law_same c.calm c.hr c.tk (zab (je_strO T.ow_News G.m_News_str c.calm c.hr c.tk T.fr_str (zaa 4)) (zab (zam G.g__law_text c.calm c.hr c.tk (zab (zaa 2) zae)) zae)))))))) (zac (zau je_bl)
  zag) zag)
  (zac (zaz (i := 6) c.nd (zam G.g__law_bent c.calm c.hr c.tk (zab (zaa 1) (zab (zaa 2) zae))))
  (zac (zaz (i := 7) c.nd (je_make G.mk_News c.calm c.hr c.tk (zab (zaj c.hr.u66 (zaa 6) zaf) (zab (zaj c.hr.u66 (zaa 6) zaf) (zab (zaj c.hr.u66 (zaa 6) zaf) zae)))))
  (zac (zaz (i := 8) c.nd (je_cmp c.hr.u66 (zaa 6) (zaa 2)))
  (zac (js_if (jt_bool (jw_or (zbd c.hr.u66 (je_oeq T.ci_News T.ow_News G.m_News_eq c.calm c.hr c.tk (zaa 4) (zaa 7)) (zaa 8)) (jw_or (zbd c.hr.u66 (je_onq T.ci_News T.ow_News G.m_News_eq c.calm c.hr c.tk (zaa 4) (zaa 7)) (zaa 8)) (jw_or1 (zbd c.hr.u66 (je_oeq T.ci_News T.ow_News G.m_News_eq c.calm c.hr c.tk (zaa 7) (zaa 4)) (zaa 8)))))) (zac (zau je_bl)
  zag) zag)
  (zac (js_if (jt_bool (jw_or (jt_oeq T.ci_News T.ow_News G.m_News_eq c.calm c.hr c.tk (zaa 4) (zaa 2)) (jw_or (jt_oeq T.ci_News T.ow_News G.m_News_eq c.calm c.hr c.tk (zaa 4) (je_biT .tupleOf (fun _ => bi_tuple) T.fr_tuple (by decide +kernel) (zab (zaa 2) zae))) (jw_or (jt_oeq T.ci_News T.ow_News G.m_News_eq c.calm c.hr c.tk (zaa 4) (je_strO T.ow_News G.m_News_str c.calm c.hr c.tk T.fr_str (zaa 4))) (jw_or (jt_oeq T.ci_News T.ow_News G.m_News_eq c.calm c.hr c.tk (zaa 4) je_non) (jw_or1 (jt_oeq T.ci_News T.ow_News G.m_News_eq c.calm c.hr c.tk (zaa 4) (je_lenO T.ow_News G.m_News_len c.calm c.hr c.tk T.fr_len (zaa 4))))))))) (zac (zau je_bl)
  zag) zag)
  (zac (zau (je_oeq T.ci_News T.ow_News G.m_News_eq c.calm c.hr c.tk (zaa 4) (je_make G.mk_News c.calm c.hr c.tk (zab (zaj c.hr.u66 (zaa 2) zaf) (zab (zaj c.hr.u66 (zaa 2) zaf) (zab (zaj c.hr.u66 (zaa 2) zaf) zae))))))
  zag))))))))))))))
theorem jb_News_init (T : Fcts K mg) (G : Fns P w K mg base k) (c : Cq (cxOf (L2N.CX P w) P w K mg base N_News_init "News.__init__" (defScope zbm) f cdv A outer s H E) (fun c d _ H => E c d H) k) :
    JSs (cxOf (L2N.CX P w) P w K mg base N_News_init "News.__init__" (defScope zbm) f cdv A outer s H E) (fun c d _ H => E c d H) (call tbl k) (defBody zbm) F_News_init.body :=
  (zac (js_fld T.ci_News (by decide) (je_biT .listOf (fun _ => (bi_list c.calm)) T.fr_list (by decide +kernel) (zab (zaa 1) zae)) (zaa 0))
  (zac (js_fld T.ci_News (by decide) (je_biT .listOf (fun _ => (bi_list c.calm)) T.fr_list (by decide +kernel) (zab (zaa 2) zae)) (zaa 0))
  (zac (js_fld T.ci_News (by decide) (je_biT .listOf (fun _ => (bi_list c.calm)) T.fr_list (by decide +kernel) (zab (zaa 3) zae)) (zaa 0))
  zag)))
theorem jb_News_eq (T : Fcts K mg) (G : Fns P w K mg base k) (c : Cq (cxOf (L2N.CX P w) P w K mg base N_News_eq "News.__eq__" (defScope s_News_eq) f cdv A outer s H E) (fun c d _ H => E c d H) k) :
    JSs (cxOf (L2N.CX P w) P w K mg base N_News_eq "News.__eq__" (defScope s_News_eq) f cdv A outer s H E) (fun c d _ H => E c d H) (call tbl k) (defBody s_News_eq) F_News_eq.body :=
  (zac (js_if (jt_not (jt_val (je_isCN T.ci_News T.ow_News T.fr_isinstance T.cl_News (zaa 1)))) (zac (zau je_bl)
  zag) zag)
  (zac (zau (je_and (je_cmp c.hr.u66 (je_fld T.ci_News (by decide) (zaa 0)) (je_fld T.ci_News (by decide) (zaa 1))) (je_and (je_cmp c.hr.u66 (je_fld T.ci_News (by decide) (zaa 0)) (je_fld T.ci_News (by decide) (zaa 1))) (je_one (je_cmp c.hr.u66 (je_fld T.ci_News (by decide) (zaa 0)) (je_fld T.ci_News (by decide) (zaa 1)))))))
  zag))
theorem jb_News_len (T : Fcts K mg) (G : Fns P w K mg base k) (c : Cq (cxOf (L2N.CX P w) P w K mg base N_News_len "News.__len__" (defScope s_News_len) f cdv A outer s H E) (fun c d _ H => E c d H) k) :
    JSs (cxOf (L2N.CX P w) P w K mg base N_News_len "News.__len__" (defScope s_News_len) f cdv A outer s H E) (fun c d _ H => E c d H) (call tbl k) (defBody s_News_len) F_News_len.body :=
  (zac (zau (je_bi .len (fun _ => bi_len) T.fr_len (by decide +kernel) (zab (zak (zak (je_fld T.ci_News (by decide) (zaa 0)) (je_fld T.ci_News (by decide) (zaa 0))) (je_fld T.ci_News (by decide) (zaa 0))) zae)))
  zag)
theorem jb_News_str (T : Fcts K mg) (G : Fns P w K mg base k) (c : Cq (cxOf (L2N.CX P w) P w K mg base N_News_str "News.__str__" (defScope za4) f cdv A outer s H E) (fun c d _ H => E c d H) k) :
    JSs (cxOf (L2N.CX P w) P w K mg base N_News_str "News.__str__" (defScope za4) f cdv A outer s H E) (fun c d _ H => E c d H) (call tbl k) (defBody za4) F_News_str.body :=
  (zac (zaz (i := 1) c.nd (zak (je_comp (own := [("name", 2)]) (is := [2]) (one := .one) c.calm c.nd (ji_seq (je_fld T.ci_News (by decide) (zaa 0))) (blkOk_by (own := [("name", 2)]) (N := N_News_str) (sc := defScope za4) (by decide +kernel)) (fun sB HB CB clB fpB => (tg_one (c.blk sB HB _ _ fpB).nd)) (fun sB HB CB clB fpB => cd_none) (fun sB HB CB clB fpB => (zak zbe (zaa 2)))) (je_comp (own := [("name", 2)]) (is := [2]) (one := .one) c.calm c.nd (ji_seq (je_fld T.ci_News (by decide) (zaa 0))) (blkOk_by (own := [("name", 2)]) (N := N_News_str) (sc := defScope za4) (by decide +kernel)) (fun sB HB CB clB fpB => (tg_one (c.blk sB HB _ _ fpB).nd)) (fun sB HB CB clB fpB => cd_none) (fun sB HB CB clB fpB => (zak zbe (zaa 2))))))
  (zac (zau (je_mth .join PySem.F.plainAttrs_str PySem.F.slot_str_join PySem.F.type_str_join (fun _ => mt_join_ok) zbe (zab (zak (zaa 1) (je_comp (own := [("name", 2), ("move", 3)]) (is := [2, 3]) (one := .tup) c.calm c.nd (ji_seq (je_fld T.ci_News (by decide) (zaa 0))) (blkOk_by (own := [("name", 2), ("move", 3)]) (N := N_News_str) (sc := defScope za4) (by decide +kernel)) (fun sB HB CB clB fpB => (tg_tup (c.blk sB HB _ _ fpB).calm (tgs_cons (i := 2) (c.blk sB HB _ _ fpB).nd (tgs_cons (i := 3) (c.blk sB HB _ _ fpB).nd tgs_nil)))) (fun sB HB CB clB fpB => cd_none) (fun sB HB CB clB fpB => (zam G.g_heard_text (c.blk sB HB _ _ fpB).calm (c.blk sB HB _ _ fpB).hr (c.blk sB HB _ _ fpB).tk (zab (zaa 2) (zab (zaa 3) zae)))))) zae)))
  zag))
end
end Sb
set_option maxHeartbeats 0
namespace Sb
theorem bA {a b : Bool} (h : (a && b) = true) : a = true ∧ b = true := Bool.and_eq_true_iff.mp h
open PySem PySem.Spec L2
abbrev LV : Nat := 24
theorem hex_tab {K : PySem.W.Frag} (e : hex K = true) : tabB K [] = true := (bA (bA (bA (bA (bA (bA e).1).1).1).1).1).1
theorem fcts {K : PySem.W.Frag} {h : Heap} {mg : Str → Option Value} (X : K.In h) (G : h.Ns mainGlobals mg) (c : He.SaysD hfa hfn K) (e : hex K = true) : Fcts K mg :=
  ⟨He.free_ok X G (c.fact 15 (f := .free "abs") rfl), He.free_ok X G (c.fact 16 (f := .free "all") rfl), He.free_ok X G (c.fact 17 (f := .free "bool") rfl), He.free_ok X G (c.fact 18 (f := .free "int") rfl), He.free_ok X G (c.fact 19 (f := .free "isinstance") rfl), He.free_ok X G (c.fact 20 (f := .free "len") rfl), He.free_ok X G (c.fact 21 (f := .free "list") rfl), He.free_ok X G (c.fact 22 (f := .free "range") rfl), He.free_ok X G (c.fact 23 (f := .free "str") rfl), He.free_ok X G (c.fact 24 (f := .free "sum") rfl), He.free_ok X G (c.fact 25 (f := .free "tuple") rfl), He.free_ok X G (c.fact 26 (f := .free "zip") rfl), He.glo_ok X G (c.fact 27 (f := .glo "News") rfl), clB_ok (bA (bA (bA (bA (bA (bA e).1).1).1).1).1).2, owB_ok (bA e).2⟩
theorem all_ok {P : Program} {w : World} {K : PySem.W.Frag} {h base : Heap} {mg : Str → Option Value} (X : K.In h) (Gh : h.Ns mainGlobals mg) (c : He.SaysD hfa hfn K) (e : hex K = true) (D : tbsU hts K = keyU hts w) (TB : ∀ p ∈ tabCs K, LamX.TabB base mg p.1 p.2) : ∀ k, Fns P w K mg base k := by
  have T := fcts X Gh c e
  obtain ⟨fd_number_written, FD_number_written⟩ := c.def_ 0 (d := d_number_written) rfl
  obtain ⟨fd_move_text, FD_move_text⟩ := c.def_ 1 (d := d_move_text) rfl
  obtain ⟨fd_heard_text, FD_heard_text⟩ := c.def_ 2 (d := d_heard_text) rfl
  obtain ⟨fd__law_start, FD__law_start⟩ := c.def_ 3 (d := d__law_start) rfl
  obtain ⟨fd__law_draw, FD__law_draw⟩ := c.def_ 4 (d := d__law_draw) rfl
  obtain ⟨fd__law_mix, FD__law_mix⟩ := c.def_ 5 (d := d__law_mix) rfl
  obtain ⟨fd__law_same, FD__law_same⟩ := c.def_ 6 (d := d__law_same) rfl
  obtain ⟨fd__law_lowest, FD__law_lowest⟩ := c.def_ 7 (d := d__law_lowest) rfl
  obtain ⟨fd__law_part, FD__law_part⟩ := c.def_ 8 (d := d__law_part) rfl
  obtain ⟨fd__law_lists, FD__law_lists⟩ := c.def_ 9 (d := d__law_lists) rfl
  obtain ⟨fd__law_number, FD__law_number⟩ := c.def_ 10 (d := d__law_number) rfl
  obtain ⟨fd__law_text, FD__law_text⟩ := c.def_ 11 (d := d__law_text) rfl
  obtain ⟨fd__law_bent, FD__law_bent⟩ := c.def_ 12 (d := d__law_bent) rfl
  obtain ⟨fd_law, FD_law⟩ := c.def_ 13 (d := d_law) rfl
  obtain ⟨fd_News_init, FD_News_init⟩ := c.def_ 14 (d := d_News_init) rfl
  obtain ⟨fd_News_eq, FD_News_eq⟩ := c.def_ 15 (d := d_News_eq) rfl
  obtain ⟨fd_News_len, FD_News_len⟩ := c.def_ 16 (d := d_News_len) rfl
  obtain ⟨fd_News_str, FD_News_str⟩ := c.def_ 17 (d := d_News_str) rfl
  intro k
  induction k with
  | zero => exact ⟨⟨He.ga K "number_written", fd_number_written, ["fraction"], rfl, za3, He.glo_ok X Gh (c.fact 0 (f := .glo "number_written") rfl), FD_number_written.kp, FD_number_written.bindsN (fun _ _ _ _ _ _ us hl => match us, hl with | [_], _ => rfl)⟩,
    ⟨He.ga K "move_text", fd_move_text, ["move", "mark"], rfl, za3, He.glo_ok X Gh (c.fact 1 (f := .glo "move_text") rfl), FD_move_text.kp, FD_move_text.bindsN (fun _ _ _ _ _ _ us hl => match us, hl with | [_, _], _ => rfl)⟩,
    ⟨He.ga K "heard_text", fd_heard_text, ["name", "move"], rfl, za3, He.glo_ok X Gh (c.fact 2 (f := .glo "heard_text") rfl), FD_heard_text.kp, FD_heard_text.bindsN (fun _ _ _ _ _ _ us hl => match us, hl with | [_, _], _ => rfl)⟩,
    ⟨He.ga K "_law_start", fd__law_start, ["_law_script"], rfl, za3, He.glo_ok X Gh (c.fact 3 (f := .glo "_law_start") rfl), FD__law_start.kp, FD__law_start.bindsN (fun _ _ _ _ _ _ us hl => match us, hl with | [_], _ => rfl)⟩,
    ⟨He.ga K "_law_draw", fd__law_draw, ["_law_state", "_law_many"], rfl, za3, He.glo_ok X Gh (c.fact 4 (f := .glo "_law_draw") rfl), FD__law_draw.kp, FD__law_draw.bindsN (fun _ _ _ _ _ _ us hl => match us, hl with | [_, _], _ => rfl)⟩,
    ⟨He.ga K "_law_mix", fd__law_mix, ["_law_state"], rfl, za3, He.glo_ok X Gh (c.fact 5 (f := .glo "_law_mix") rfl), FD__law_mix.kp, FD__law_mix.bindsN (fun _ _ _ _ _ _ us hl => match us, hl with | [_], _ => rfl)⟩,
    ⟨He.ga K "_law_same", fd__law_same, ["_law_found", "_law_want"], rfl, za3, He.glo_ok X Gh (c.fact 6 (f := .glo "_law_same") rfl), FD__law_same.kp, FD__law_same.bindsN (fun _ _ _ _ _ _ us hl => match us, hl with | [_, _], _ => rfl)⟩,
    ⟨He.ga K "_law_lowest", fd__law_lowest, ["_law_top", "_law_bottom"], rfl, za3, He.glo_ok X Gh (c.fact 7 (f := .glo "_law_lowest") rfl), FD__law_lowest.kp, FD__law_lowest.bindsN (fun _ _ _ _ _ _ us hl => match us, hl with | [_, _], _ => rfl)⟩,
    ⟨He.ga K "_law_part", fd__law_part, ["_law_state"], rfl, za3, He.glo_ok X Gh (c.fact 8 (f := .glo "_law_part") rfl), FD__law_part.kp, FD__law_part.bindsN (fun _ _ _ _ _ _ us hl => match us, hl with | [_], _ => rfl)⟩,
    ⟨He.ga K "_law_lists", fd__law_lists, ["_law_state"], rfl, za3, He.glo_ok X Gh (c.fact 9 (f := .glo "_law_lists") rfl), FD__law_lists.kp, FD__law_lists.bindsN (fun _ _ _ _ _ _ us hl => match us, hl with | [_], _ => rfl)⟩,
    ⟨He.ga K "_law_number", fd__law_number, ["_law_fraction"], rfl, za3, He.glo_ok X Gh (c.fact 10 (f := .glo "_law_number") rfl), FD__law_number.kp, FD__law_number.bindsN (fun _ _ _ _ _ _ us hl => match us, hl with | [_], _ => rfl)⟩,
    ⟨He.ga K "_law_text", fd__law_text, ["_law_lists_here"], rfl, za3, He.glo_ok X Gh (c.fact 11 (f := .glo "_law_text") rfl), FD__law_text.kp, FD__law_text.bindsN (fun _ _ _ _ _ _ us hl => match us, hl with | [_], _ => rfl)⟩,
    ⟨He.ga K "_law_bent", fd__law_bent, ["_law_state", "_law_lists_here"], rfl, za3, He.glo_ok X Gh (c.fact 12 (f := .glo "_law_bent") rfl), FD__law_bent.kp, FD__law_bent.bindsN (fun _ _ _ _ _ _ us hl => match us, hl with | [_, _], _ => rfl)⟩,
    ⟨He.ga K "law", fd_law, ["_law_script"], rfl, za3, He.glo_ok X Gh (c.fact 13 (f := .glo "law") rfl), FD_law.kp, FD_law.bindsN (fun _ _ _ _ _ _ us hl => match us, hl with | [_], _ => rfl)⟩,
    ⟨_, fd_News_init, ["self", "came", "went", "heard"], rfl, za3, mkB_ok (bA (bA (bA (bA (bA e).1).1).1).1).2, He.glo_ok X Gh (c.fact 14 (f := .glo "News") rfl), FD_News_init.bindsN (fun _ _ _ _ _ _ us hl => match us, hl with | [_, _, _, _], _ => rfl)⟩,
    ⟨_, fd_News_eq, ["self", "other"], rfl, za3, ⟨(meB_ok (bA (bA (bA (bA e).1).1).1).2).1, (meB_ok (bA (bA (bA (bA e).1).1).1).2).2, FD_News_eq.kp⟩, FD_News_eq.bindsN (fun _ _ _ _ _ _ us hl => match us, hl with | [_, _], _ => rfl)⟩,
    ⟨_, fd_News_len, ["self"], rfl, za3, ⟨(meB_ok (bA (bA (bA e).1).1).2).1, (meB_ok (bA (bA (bA e).1).1).2).2, FD_News_len.kp⟩, FD_News_len.bindsN (fun _ _ _ _ _ _ us hl => match us, hl with | [_], _ => rfl)⟩,
    ⟨_, fd_News_str, ["self"], rfl, za3, ⟨(meB_ok (bA (bA e).1).2).1, (meB_ok (bA (bA e).1).2).2, FD_News_str.kp⟩, FD_News_str.bindsN (fun _ _ _ _ _ _ us hl => match us, hl with | [_], _ => rfl)⟩,
    ⟨⟨_, fd_News_init, ["self", "came", "went", "heard"], rfl, za3, mkB_ok (bA (bA (bA (bA (bA e).1).1).1).1).2, He.glo_ok X Gh (c.fact 14 (f := .glo "News") rfl), kbnN FD_News_init 1 ["came", "went", "heard"] (List.range 4) (fun _ _ _ _ _ _ us ws l1 l2 => match us, l1, ws, l2 with | [_], _, [_, _, _], _ => rfl)⟩⟩⟩
  | succ k G => exact ⟨⟨He.ga K "number_written", fd_number_written, ["fraction"], rfl, fn_ok (tbl := tbl) (fi := 453) FD_number_written sc_number_written rfl rfl (fun _ _ _ _ _ _ _ cq => jb_number_written T G cq), He.glo_ok X Gh (c.fact 0 (f := .glo "number_written") rfl), FD_number_written.kp, FD_number_written.bindsN (fun _ _ _ _ _ _ us hl => match us, hl with | [_], _ => rfl)⟩,
    ⟨He.ga K "move_text", fd_move_text, ["move", "mark"], rfl, fn_ok (tbl := tbl) (fi := 454) FD_move_text sc_move_text rfl rfl (fun _ _ _ _ _ _ _ cq => jb_move_text T G cq), He.glo_ok X Gh (c.fact 1 (f := .glo "move_text") rfl), FD_move_text.kp, FD_move_text.bindsN (fun _ _ _ _ _ _ us hl => match us, hl with | [_, _], _ => rfl)⟩,
    ⟨He.ga K "heard_text", fd_heard_text, ["name", "move"], rfl, fn_ok (tbl := tbl) (fi := 455) FD_heard_text sc_heard_text rfl rfl (fun _ _ _ _ _ _ _ cq => jb_heard_text T G cq), He.glo_ok X Gh (c.fact 2 (f := .glo "heard_text") rfl), FD_heard_text.kp, FD_heard_text.bindsN (fun _ _ _ _ _ _ us hl => match us, hl with | [_, _], _ => rfl)⟩,
    ⟨He.ga K "_law_start", fd__law_start, ["_law_script"], rfl, fn_ok (tbl := tbl) (fi := 4) FD__law_start sc__law_start rfl rfl (fun _ _ _ _ _ _ _ cq => jb__law_start T G cq), He.glo_ok X Gh (c.fact 3 (f := .glo "_law_start") rfl), FD__law_start.kp, FD__law_start.bindsN (fun _ _ _ _ _ _ us hl => match us, hl with | [_], _ => rfl)⟩,
    ⟨He.ga K "_law_draw", fd__law_draw, ["_law_state", "_law_many"], rfl, fn_ok (tbl := tbl) (fi := 6) FD__law_draw sc__law_draw rfl rfl (fun _ _ _ _ _ _ _ cq => jb__law_draw T G cq), He.glo_ok X Gh (c.fact 4 (f := .glo "_law_draw") rfl), FD__law_draw.kp, FD__law_draw.bindsN (fun _ _ _ _ _ _ us hl => match us, hl with | [_, _], _ => rfl)⟩,
    ⟨He.ga K "_law_mix", fd__law_mix, ["_law_state"], rfl, fn_ok (tbl := tbl) (fi := 5) FD__law_mix sc__law_mix rfl rfl (fun _ _ _ _ _ _ _ cq => jb__law_mix T G cq), He.glo_ok X Gh (c.fact 5 (f := .glo "_law_mix") rfl), FD__law_mix.kp, FD__law_mix.bindsN (fun _ _ _ _ _ _ us hl => match us, hl with | [_], _ => rfl)⟩,
    ⟨He.ga K "_law_same", fd__law_same, ["_law_found", "_law_want"], rfl, fn_ok (tbl := tbl) (fi := 7) FD__law_same sc__law_same rfl rfl (fun _ _ _ _ _ _ _ cq => jb__law_same T G cq), He.glo_ok X Gh (c.fact 6 (f := .glo "_law_same") rfl), FD__law_same.kp, FD__law_same.bindsN (fun _ _ _ _ _ _ us hl => match us, hl with | [_, _], _ => rfl)⟩,
    ⟨He.ga K "_law_lowest", fd__law_lowest, ["_law_top", "_law_bottom"], rfl, fn_ok (tbl := tbl) (fi := 9) FD__law_lowest sc__law_lowest rfl rfl (fun _ _ _ _ _ _ _ cq => jb__law_lowest T G cq), He.glo_ok X Gh (c.fact 7 (f := .glo "_law_lowest") rfl), FD__law_lowest.kp, FD__law_lowest.bindsN (fun _ _ _ _ _ _ us hl => match us, hl with | [_, _], _ => rfl)⟩,
    ⟨He.ga K "_law_part", fd__law_part, ["_law_state"], rfl, fn_ok (tbl := tbl) (fi := 166) FD__law_part sc__law_part rfl rfl (fun _ _ _ _ _ _ _ cq => jb__law_part T G cq), He.glo_ok X Gh (c.fact 8 (f := .glo "_law_part") rfl), FD__law_part.kp, FD__law_part.bindsN (fun _ _ _ _ _ _ us hl => match us, hl with | [_], _ => rfl)⟩,
    ⟨He.ga K "_law_lists", fd__law_lists, ["_law_state"], rfl, fn_ok (tbl := tbl) (fi := 167) FD__law_lists sc__law_lists rfl rfl (fun _ _ _ _ _ _ _ cq => jb__law_lists T G cq), He.glo_ok X Gh (c.fact 9 (f := .glo "_law_lists") rfl), FD__law_lists.kp, FD__law_lists.bindsN (fun _ _ _ _ _ _ us hl => match us, hl with | [_], _ => rfl)⟩,
    ⟨He.ga K "_law_number", fd__law_number, ["_law_fraction"], rfl, fn_ok (tbl := tbl) (fi := 457) FD__law_number sc__law_number rfl rfl (fun _ _ _ _ _ _ _ cq => jb__law_number T G cq), He.glo_ok X Gh (c.fact 10 (f := .glo "_law_number") rfl), FD__law_number.kp, FD__law_number.bindsN (fun _ _ _ _ _ _ us hl => match us, hl with | [_], _ => rfl)⟩,
    ⟨He.ga K "_law_text", fd__law_text, ["_law_lists_here"], rfl, fn_ok (tbl := tbl) (fi := 458) FD__law_text sc__law_text rfl rfl (fun _ _ _ _ _ _ _ cq => jb__law_text T G cq), He.glo_ok X Gh (c.fact 11 (f := .glo "_law_text") rfl), FD__law_text.kp, FD__law_text.bindsN (fun _ _ _ _ _ _ us hl => match us, hl with | [_], _ => rfl)⟩,
    ⟨He.ga K "_law_bent", fd__law_bent, ["_law_state", "_law_lists_here"], rfl, fn_ok (tbl := tbl) (fi := 459) FD__law_bent sc__law_bent rfl rfl (fun _ _ _ _ _ _ _ cq => jb__law_bent T G cq), He.glo_ok X Gh (c.fact 12 (f := .glo "_law_bent") rfl), FD__law_bent.kp, FD__law_bent.bindsN (fun _ _ _ _ _ _ us hl => match us, hl with | [_, _], _ => rfl)⟩,
    ⟨He.ga K "law", fd_law, ["_law_script"], rfl, fn_ok (tbl := tbl) (fi := 461) FD_law sc_law rfl rfl (fun _ _ _ _ _ _ _ cq => jb_law T G cq), He.glo_ok X Gh (c.fact 13 (f := .glo "law") rfl), FD_law.kp, FD_law.bindsN (fun _ _ _ _ _ _ us hl => match us, hl with | [_], _ => rfl)⟩,
    ⟨_, fd_News_init, ["self", "came", "went", "heard"], rfl, fn_ok (tbl := tbl) (fi := 211) FD_News_init sc_News_init rfl rfl (fun _ _ _ _ _ _ _ cq => jb_News_init T G cq), mkB_ok (bA (bA (bA (bA (bA e).1).1).1).1).2, He.glo_ok X Gh (c.fact 14 (f := .glo "News") rfl), FD_News_init.bindsN (fun _ _ _ _ _ _ us hl => match us, hl with | [_, _, _, _], _ => rfl)⟩,
    ⟨_, fd_News_eq, ["self", "other"], rfl, fn_ok (tbl := tbl) (fi := 460) FD_News_eq sc_News_eq rfl rfl (fun _ _ _ _ _ _ _ cq => jb_News_eq T G cq), ⟨(meB_ok (bA (bA (bA (bA e).1).1).1).2).1, (meB_ok (bA (bA (bA (bA e).1).1).1).2).2, FD_News_eq.kp⟩, FD_News_eq.bindsN (fun _ _ _ _ _ _ us hl => match us, hl with | [_, _], _ => rfl)⟩,
    ⟨_, fd_News_len, ["self"], rfl, fn_ok (tbl := tbl) (fi := 452) FD_News_len sc_News_len rfl rfl (fun _ _ _ _ _ _ _ cq => jb_News_len T G cq), ⟨(meB_ok (bA (bA (bA e).1).1).2).1, (meB_ok (bA (bA (bA e).1).1).2).2, FD_News_len.kp⟩, FD_News_len.bindsN (fun _ _ _ _ _ _ us hl => match us, hl with | [_], _ => rfl)⟩,
    ⟨_, fd_News_str, ["self"], rfl, fn_ok (tbl := tbl) (fi := 456) FD_News_str sc_News_str rfl rfl (fun _ _ _ _ _ _ _ cq => jb_News_str T G cq), ⟨(meB_ok (bA (bA e).1).2).1, (meB_ok (bA (bA e).1).2).2, FD_News_str.kp⟩, FD_News_str.bindsN (fun _ _ _ _ _ _ us hl => match us, hl with | [_], _ => rfl)⟩,
    ⟨⟨_, fd_News_init, ["self", "came", "went", "heard"], rfl, fn_ok (tbl := tbl) (fi := 211) FD_News_init sc_News_init rfl rfl (fun _ _ _ _ _ _ _ cq => jb_News_init T G cq), mkB_ok (bA (bA (bA (bA (bA e).1).1).1).1).2, He.glo_ok X Gh (c.fact 14 (f := .glo "News") rfl), kbnN FD_News_init 1 ["came", "went", "heard"] (List.range 4) (fun _ _ _ _ _ _ us ws l1 l2 => match us, l1, ws, l2 with | [_], _, [_, _, _], _ => rfl)⟩⟩⟩
theorem law_fn {P : Program} {w : World} {K : PySem.W.Frag} {h : Heap} {mg : Str → Option Value} {fa : Addr} (X : K.In h) (Gh : h.Ns mainGlobals mg) (hlw : mg ("law" : Str) = some (.ref fa)) (c : He.SaysD hfa hfn K) (e : hex K = true) (D : tbsU hts K = keyU hts w) :
    ∃ fd : FuncData, (∀ (s : Shared) (v : Value), BindsTo s fd ⟨[v], []⟩ [("_law_script", v)]) ∧ ∀ base : Heap, K.In base → base.Ns mainGlobals mg → (∀ p ∈ tabCs K, LamX.TabB base mg p.1 p.2) → FnOk P w K mg base (L2N.CX P w) (2 * LV + 3) fa fd ["_law_script"] (spF ⟨K, [], P, w⟩ mg (call tbl LV) 461 1) := by
  obtain ⟨fd, F⟩ := c.def_ 13 (d := d_law) rfl
  have ee := hlw.symm.trans (He.glo_ok X Gh (c.fact 13 (f := .glo "law") rfl))
  cases ee
  have b := FunD.bindsA (ps := ["_law_script"]) F fun _ _ _ _ _ _ us hl => match us, hl with | [_], _ => rfl
  exact ⟨fd, fun s v => b s [v] rfl, fun base _ _ TB => fn_ok (tbl := tbl) (fi := 461) F sc_law rfl rfl (fun _ _ _ _ _ _ _ cq => jb_law (fcts X Gh c e) (all_ok X Gh c e D TB _) cq)⟩
end Sb
set_option maxHeartbeats 4000000
namespace Sb
open PySem
/-- all but the places S is as it was -/
structure Fr (S : List Nat) (h h' : PH) : Prop where
  len : h.length ≤ h'.length
  at_ : ∀ n, n ∉ S → n < h.length → h'[n]? = h[n]?
theorem Fr.refl (S : List Nat) (h : PH) : Fr S h h := ⟨Nat.le_refl _, fun _ _ _ => rfl⟩
theorem Fr.trans {S : List Nat} {h1 h2 h3 : PH} (a : Fr S h1 h2) (b : Fr S h2 h3) : Fr S h1 h3 := ⟨Nat.le_trans a.len b.len, fun n hn hl => (b.at_ n hn (Nat.lt_of_lt_of_le hl a.len)).trans (a.at_ n hn hl)⟩
theorem Fr.set {S : List Nat} {h : PH} {n : Nat} {o : PO} (m : n ∈ S) : Fr S h (h.set n o) := ⟨by rw [List.length_set]; exact Nat.le_refl _, fun k hk _ => by
  rw [List.getElem?_set_ne]
  rintro rfl
  exact hk m⟩
theorem Fr.app {S : List Nat} {h t : PH} : Fr S h (h ++ t) := ⟨by simp, fun k _ hl => List.getElem?_append_left hl⟩
theorem Fr.some {S : List Nat} {h h' : PH} (f : Fr S h h') {n : Nat} {o : PO} (hn : n ∉ S) (e : h[n]? = some o) : h'[n]? = some o := (f.at_ n hn (List.getElem?_eq_some_iff.mp e).1).trans e
theorem Fr.mono {S S' : List Nat} {h h' : PH} (f : Fr S h h') (hs : ∀ n ∈ S, n ∈ S') : Fr S' h h' := ⟨f.len, fun n hn hl => f.at_ n (fun z => hn (hs n z)) hl⟩
/-- the state of the draws: s the state's list, g the great numbers left, c the cells; at most B mixes were made -/
structure St (h : PH) (s g c B : Nat) : Prop where
  ex : ∃ (gr : List Int) (cur : Int) (cs : List Int) (cnt : Int), h[s]? = some (.lst [.ref g, .int cur, .ref c, .int cnt]) ∧ h[g]? = some (.lst (gr.map PV.int)) ∧ h[c]? = some (.lst (cs.map PV.int)) ∧
    (∀ x ∈ gr, 0 < x) ∧ (∀ x ∈ cs, 0 ≤ x ∧ x < 2147483587) ∧ cs.length ≤ 1000000 ∧ 0 ≤ cur ∧ 0 ≤ cnt ∧ cnt ≤ (B : Int)
  sg : s ≠ g
  sc : s ≠ c
  gc : g ≠ c
theorem St.frame {h h' : PH} {s g c B : Nat} {S : List Nat} (st : St h s g c B) (f : Fr S h h') (h1 : s ∉ S) (h2 : g ∉ S) (h3 : c ∉ S) : St h' s g c B := by
  obtain ⟨gr, cur, cs, cnt, e1, e2, e3, r⟩ := st.ex
  exact ⟨⟨gr, cur, cs, cnt, f.some h1 e1, f.some h2 e2, f.some h3 e3, r⟩, st.sg, st.sc, st.gc⟩
theorem St.app {h t : PH} {s g c B : Nat} (st : St h s g c B) : St (h ++ t) s g c B := st.frame (S := []) Fr.app (by simp) (by simp) (by simp)
theorem St.up {h : PH} {s g c B B' : Nat} (st : St h s g c B) (hb : B ≤ B') : St h s g c B' := by
  obtain ⟨gr, cur, cs, cnt, e1, e2, e3, r1, r2, r3, r4, r5, r6⟩ := st.ex
  exact ⟨⟨gr, cur, cs, cnt, e1, e2, e3, r1, r2, r3, r4, r5, by omega⟩, st.sg, st.sc, st.gc⟩
theorem set_at {h : PH} {n : Nat} {o o' : PO} (e : h[n]? = some o) : (h.set n o')[n]? = some o' := List.getElem?_set_self (List.getElem?_eq_some_iff.mp e).1
theorem set_ne' {h : PH} {n m : Nat} {o : PO} (e : n ≠ m) : (h.set n o)[m]? = h[m]? := List.getElem?_set_ne e
section
variable {tbl : Nat → Fn}
theorem mix_sat (h5 : tbl 5 = F_law_mix) {k : Nat} {h : PH} {s g c B : Nat} (st : St h s g c B) (hB : B + 1 ≤ 2 ^ 20) {Q : PV → PH → Prop}
    (q : ∀ r h', 0 ≤ r → r < 1000000007 → St h' s g c (B + 1) → Fr [s, g] h h' → h'.length = h.length → Q (.int r) h') : (call tbl (k + 1) 5 [.ref s] h).Sat Q := by
  rw [zao, h5]
  obtain ⟨gr, cur, cs, cnt, e1, e2, e3, r1, r2, r3, r4, r5, r6⟩ := st.ex
  refine zbn rfl ?_
  have hn : h.set s (.lst [.ref g, .int cur, .ref c, .int (cnt + 1)]) = h.set s (.lst [.ref g, .int cur, .ref c, .int (cnt + 1)]) := rfl
  generalize eh : h.set s (.lst [.ref g, .int cur, .ref c, .int (cnt + 1)]) = h1 at hn
  have f1 : h1[s]? = some (.lst [.ref g, .int cur, .ref c, .int (cnt + 1)]) := by rw [← eh]; exact set_at e1
  have f2 : h1[g]? = some (.lst (gr.map PV.int)) := by rw [← eh, set_ne' st.sg]; exact e2
  have f3 : h1[c]? = some (.lst (cs.map PV.int)) := by rw [← eh, set_ne' st.sc]; exact e3
  have st1 : St h1 s g c (B + 1) := ⟨⟨gr, cur, cs, cnt + 1, f1, f2, f3, r1, r2, r3, r4, by omega, by omega⟩, st.sg, st.sc, st.gc⟩
  have fr1 : Fr [s, g] h h1 := by rw [← eh]; exact Fr.set (by simp)
  have i3 : idxop (.ref s) (.int 3) h1 = .ok (.int (cnt + 1)) h1 := zbb f1 rfl
  have i2 : idxop (.ref s) (.int 2) h1 = .ok (.ref c) h1 := zbb f1 rfl
  -- the sum's end, whatever the cell is
  have fin_ : ∀ cell : Int, 0 ≤ cell → cell < 2147483587 → (exSs (call tbl k) [.asg (.nm 3) (.bin .Mod (.bin .Pow (.bin .Add (.bin .Add (.bin .Add (.var 2) (.bin .Mult (.bin .Mult (.lit (.int 769)) (.var 1)) (.var 1))) (.bin .Mult (.lit (.int 52361)) (.var 1))) (.lit (.int 23))) (.lit (.int 5))) (.lit (.int 2147483647))),
      .ret (.bin .Mod (.bin .Add (.bin .Mult (.var 3) (.lit (.int 48271))) (.bin .Mult (.lit (.int 6007)) (.var 1))) (.lit (.int 1000000007)))] [some (.ref s), some (.int (cnt + 1)), some (.int cell), none] h1).Sat (fun _ h => Q .non h) Q := by
    intro cell c0 c1
    have b20 : cnt + 1 ≤ 2 ^ 20 := by omega
    have m1 : mulOk 769 (cnt + 1) = true := mul_ok (a := 10) (b := 21) (by decide) (by omega) (by decide) (by decide) (by decide)
    have s1 : 769 * (cnt + 1) ≤ 769 * 2 ^ 20 := by omega
    have m2 : mulOk (769 * (cnt + 1)) (cnt + 1) = true := mul_ok (a := 31) (b := 21) (by omega) (by omega) (by decide) (by decide) (by decide)
    have m3 : mulOk 52361 (cnt + 1) = true := mul_ok (a := 16) (b := 21) (by decide) (by omega) (by decide) (by decide) (by decide)
    have s2 : 769 * (cnt + 1) * (cnt + 1) ≤ 769 * 2 ^ 20 * 2 ^ 20 := Int.mul_le_mul s1 b20 (by omega) (by omega)
    have s3 : 0 ≤ 769 * (cnt + 1) * (cnt + 1) := Int.mul_nonneg (by omega) (by omega)
    have p1 : powOk (cell + 769 * (cnt + 1) * (cnt + 1) + 52361 * (cnt + 1) + 23) 5 = true := by
      unfold powOk
      rw [decide_eq_true (show (cell + 769 * (cnt + 1) * (cnt + 1) + 52361 * (cnt + 1) + 23).natAbs < 2 ^ 64 by omega)]
      rfl
    generalize hx : (cell + 769 * (cnt + 1) * (cnt + 1) + 52361 * (cnt + 1) + 23) ^ 5 = x
    have md := Int.emod_lt_of_pos x (show (0 : Int) < 2147483647 by decide)
    have mn := Int.emod_nonneg x (show (2147483647 : Int) ≠ 0 by decide)
    have m4 : mulOk (x % 2147483647) 48271 = true := mul_ok (a := 31) (b := 16) (by omega) (by decide) (by decide) (by decide) (by decide)
    have m5 : mulOk 6007 (cnt + 1) = true := mul_ok (a := 13) (b := 21) (by decide) (by omega) (by decide) (by decide) (by decide)
    have e47 : (2147483647 : Int) ≠ 0 := by decide
    have e07 : (1000000007 : Int) ≠ 0 := by decide
    simp [zad, b_mul, b_mod, b_pow, m1, m2, m3, p1, hx, fmod_pos, m4, m5, e47, e07]
    exact q _ _ (Int.emod_nonneg _ (by decide)) (Int.emod_lt_of_pos _ (by decide)) st1 fr1 (by rw [← eh, List.length_set])
  have getl : getL (.ref s) (.int 3) h = .ok (.int cnt) h := by simp [getL, e1]
  have seto : zbo (.ref s) (.int 3) (.int (cnt + 1)) h = some h1 := by simp [zbo, e1, L2.ixN, eh]
  have tr : truthy h1 (.ref c) = some (!(cs.map PV.int).isEmpty) := tru_ref f3
  simp only [F_law_mix, zax, List.map, List.length, List.replicate, List.cons_append, List.nil_append]
  rw [zad, x_augs]
  simp [getl, seto]
  rw [zad]
  simp [i3]
  rw [zad]
  simp
  rw [zad]
  simp [i2, tr, zad]
  cases cs with
  | nil => simpa [zad] using fin_ 11 (by decide) (by decide)
  | cons y ys =>
    have ln : biF .len [.ref c] h1 = .ok (.int ((ys.length : Int) + 1)) h1 := by simp [biF, biLen, seqOf, f3]
    have hp : (0 : Int) < (ys.length : Int) + 1 := by omega
    have hi0 := Int.emod_nonneg (cnt + 1) (show ((ys.length : Int) + 1) ≠ 0 by omega)
    have hi1 := Int.emod_lt_of_pos (cnt + 1) hp
    obtain ⟨z, hz⟩ : ∃ z, (y :: ys)[((cnt + 1) % ((ys.length : Int) + 1)).toNat]? = some z := ⟨_, List.getElem?_eq_getElem (by rw [List.length_cons]; omega)⟩
    have iz : idxop (.ref c) (.int ((cnt + 1) % ((ys.length : Int) + 1))) h1 = .ok (.int z) h1 := zbb f3 (at_pos hi0 (by rw [List.getElem?_map, hz]; rfl))
    obtain ⟨z0, z1⟩ := r2 z (List.mem_of_getElem? hz)
    have md := b_mod (h := h1) (i := cnt + 1) (show ((ys.length : Int) + 1) ≠ 0 by omega)
    rw [fmod_pos hp] at md
    simp [ln, md, iz]
    simpa [zad] using fin_ z z0 z1
theorem M_pow (i : Nat) (h : i ≤ 7) : (1000000007 : Int) ^ i ≤ 1000000007 ^ 7 ∧ 1 ≤ (1000000007 : Int) ^ i := by
  match i, h with
  | 0, _ => decide
  | 1, _ => decide
  | 2, _ => decide
  | 3, _ => decide
  | 4, _ => decide
  | 5, _ => decide
  | 6, _ => decide
  | 7, _ => decide
theorem zbc (h5 : tbl 5 = F_law_mix) (h6 : tbl 6 = F_law_draw) {k : Nat} {h : PH} {s g c B : Nat} {m : Int} (st : St h s g c B) (hB : B + 8 ≤ 2 ^ 20) (m0 : 0 < m) (m1 : m ≤ 10 ^ 62) {Q : PV → PH → Prop}
    (q : ∀ r h', 0 ≤ r → r < m → St h' s g c (B + 8) → Fr [s, g] h h' → h'.length = h.length → Q (.int r) h') : (call tbl (k + 2) 6 [.ref s, .int m] h).Sat Q := by
  rw [zao, h6]
  refine zbn rfl ?_
  obtain ⟨gr, cur, cs, cnt, e1, e2, e3, r1, r2, r3, r4, r5, r6⟩ := st.ex
  have mz : m ≠ 0 := by omega
  have mb : m.natAbs < 2 ^ 207 := by
    have : (10 : Int) ^ 62 < 2 ^ 207 := by decide
    omega
  have md : divOk m = true := div_ok mz mb (by decide) (by decide)
  -- behind the first statement
  have rest : ∀ (gr : List Int) (cur : Int) (h1 : PH), h1[s]? = some (.lst [.ref g, .int cur, .ref c, .int cnt]) → h1[g]? = some (.lst (gr.map PV.int)) → h1[c]? = some (.lst (cs.map PV.int)) → (∀ x ∈ gr, 0 < x) → 0 ≤ cur → Fr [s, g] h h1 → h1.length = h.length →
      (exSs (call tbl (k + 1)) [.ifs (.cmp .Gt (.idx (.var 0) (.lit (.int 1))) (.lit (.int 0))) [.asg (.nm 2) (.bin .Mod (.idx (.var 0) (.lit (.int 1))) (.var 1)),
  .asg (.sub (.var 0) (.lit (.int 1))) (.bin .FloorDiv (.idx (.var 0) (.lit (.int 1))) (.var 1)),
  .ret (.var 2)] [],
  .asg (.nm 2) (.lit (.int 0)),
  .asg (.nm 3) (.lit (.int 1)),
  .whl (.cmp .Lt (.var 3) (.var 1)) [.asg (.nm 2) (.bin .Add (.bin .Mult (.var 2) (.lit (.int 1000000007))) (.call 5 [(.var 0)] [])),
  .asg (.nm 3) (.bin .Mult (.var 3) (.lit (.int 1000000007)))],
  .ret (.bin .Mod (.var 2) (.var 1))] [some (.ref s), some (.int m), none, none] h1).Sat (fun _ h => Q .non h) Q := by
    intro gr cur h1 e1 e2 e3 r1 r4 fr hl
    have st1 : St h1 s g c B := ⟨⟨gr, cur, cs, cnt, e1, e2, e3, r1, r2, r3, r4, r5, r6⟩, st.sg, st.sc, st.gc⟩
    have i1 : idxop (.ref s) (.int 1) h1 = .ok (.int cur) h1 := zbb e1 rfl
    by_cases hc : 0 < cur
    · have bm := b_mod (h := h1) (i := cur) mz
      have bd := b_fdiv (h := h1) (i := cur) md
      rw [fmod_pos m0] at bm
      rw [fdiv_pos m0] at bd
      have so : zbo (.ref s) (.int 1) (.int (cur / m)) h1 = some (h1.set s (.lst [.ref g, .int (cur / m), .ref c, .int cnt])) := by simp [zbo, e1, L2.ixN]
      simp [zad, i1, hc, bm, bd, so]
      refine q _ _ (Int.emod_nonneg _ mz) (Int.emod_lt_of_pos _ m0) ⟨⟨gr, cur / m, cs, cnt, set_at e1, ?_, ?_, r1, r2, r3, Int.ediv_nonneg r4 (by omega), r5, by omega⟩, st.sg, st.sc, st.gc⟩ (fr.trans (Fr.set (by simp))) (by rw [List.length_set, hl])
      · rw [set_ne' st.sg]; exact e2
      · rw [set_ne' st.sc]; exact e3
    · rw [zad]
      simp [i1, hc]
      rw [zad]
      simp
      rw [zad]
      simp
      rw [zad]
      obtain ⟨I, hI⟩ : ∃ I : Nat → Env → PH → Prop, I = fun n ρ h' => ∃ (i : Nat) (told : Int), n = 7 - i ∧ ρ = [some (.ref s), some (.int m), some (.int told), some (.int (1000000007 ^ i))] ∧ i ≤ 7 ∧ 0 ≤ told ∧ told < 1000000007 ^ i ∧ St h' s g c (B + i) ∧ Fr [s, g] h h' ∧ h'.length = h.length := ⟨_, rfl⟩
      refine x_whl I 7 (by rw [hI]; exact ⟨0, 0, rfl, rfl, by decide, by decide, by decide, st1, fr, hl⟩) ?_
      intro n ρ h2 hi
      rw [hI] at hi
      obtain ⟨i, told, rfl, rfl, i7, t0, t1, st2, fr2, hl2⟩ := hi
      obtain ⟨p1, p2⟩ := M_pow i i7
      by_cases hlt : (1000000007 : Int) ^ i < m
      · have i6 : i < 7 := by
          rcases Nat.lt_or_ge i 7 with z | z
          · exact z
          · have : i = 7 := by omega
            subst this
            have : (10 : Int) ^ 62 < 1000000007 ^ 7 := by decide
            omega
        have p7 : (1000000007 : Int) ^ 7 < 2 ^ 210 := by decide
        have k1 : mulOk told 1000000007 = true := mul_ok (a := 210) (b := 30) (by omega) (by decide) (by decide) (by decide) (by decide)
        have k2 : mulOk (1000000007 ^ i) 1000000007 = true := mul_ok (a := 210) (b := 30) (by omega) (by decide) (by decide) (by decide) (by decide)
        simp [hlt, b_mul, k1, zad]
        refine mix_sat h5 st2 (by omega) fun r h3 q1 q2 st3 fr3 hl3 => ?_
        simp [b_mul, k2]
        have ps : (1000000007 : Int) ^ (i + 1) = 1000000007 ^ i * 1000000007 := Int.pow_succ _ _
        refine ⟨7 - (i + 1), by omega, ?_⟩
        rw [hI]
        refine ⟨i + 1, told * 1000000007 + r, rfl, by rw [ps], by omega, by omega, ?_, st3, fr2.trans fr3, hl3.trans hl2⟩
        rw [ps]
        omega
      · simp [hlt]
        have bm := b_mod (h := h2) (i := told) mz
        rw [fmod_pos m0] at bm
        simp [bm, zad]
        exact q _ _ (Int.emod_nonneg _ mz) (Int.emod_lt_of_pos _ m0) (st2.up (by omega)) fr2 hl2
  have i0 : idxop (.ref s) (.int 0) h = .ok (.ref g) h := zbb e1 rfl
  have i1 : idxop (.ref s) (.int 1) h = .ok (.int cur) h := zbb e1 rfl
  have tr : truthy h (.ref g) = some (!(gr.map PV.int).isEmpty) := tru_ref e2
  simp only [F_law_draw, zax, List.map, List.length, List.replicate, List.cons_append, List.nil_append]
  rw [zad, x_if]
  simp [i1, i0, tr]
  by_cases hc : cur = 0
  · subst hc
    cases gr with
    | nil =>
      simp
      exact rest [] 0 h e1 e2 e3 (by simp) (by decide) (Fr.refl _ _) rfl
    | cons x xs =>
      have ty : tyOf h (.ref g) = some .list := by simp [tyOf, e2]
      have so : zbo (.ref s) (.int 1) (.int x) (h.set g (.lst (xs.map PV.int))) = some ((h.set g (.lst (xs.map PV.int))).set s (.lst [.ref g, .int x, .ref c, .int cnt])) := by
        have : (h.set g (.lst (xs.map PV.int)))[s]? = some (.lst [.ref g, .int 0, .ref c, .int cnt]) := by rw [set_ne' (Ne.symm st.sg)]; exact e1
        simp [zbo, this, L2.ixN]
      have pp : mtF .popAt (.ref g) [.int 0] h = .ok (.int x) (h.set g (.lst (xs.map PV.int))) := by simp [mtF, mtPopAt, e2]
      simp [i0, ty, MT.ty, pp, so]
      have q1 : ((h.set g (.lst (xs.map PV.int))).set s (.lst [.ref g, .int x, .ref c, .int cnt]))[s]? = some (.lst [.ref g, .int x, .ref c, .int cnt]) := set_at (o := .lst [.ref g, .int 0, .ref c, .int cnt]) (by rw [set_ne' (Ne.symm st.sg)]; exact e1)
      have q2 : ((h.set g (.lst (xs.map PV.int))).set s (.lst [.ref g, .int x, .ref c, .int cnt]))[g]? = some (.lst (xs.map PV.int)) := by rw [set_ne' st.sg]; exact set_at e2
      have q3 : ((h.set g (.lst (xs.map PV.int))).set s (.lst [.ref g, .int x, .ref c, .int cnt]))[c]? = some (.lst (cs.map PV.int)) := by rw [set_ne' st.sc, set_ne' st.gc]; exact e3
      exact rest xs x _ q1 q2 q3 (fun y hy => r1 y (List.mem_cons_of_mem _ hy)) (Int.le_of_lt (r1 x List.mem_cons_self)) ((Fr.set (by simp)).trans (Fr.set (by simp))) (by simp)
  · simp [hc]
    exact rest gr cur h e1 e2 e3 r1 r4 (Fr.refl _ _) rfl
end
end Sb
namespace Sb
open PySem
theorem R.Sat.eq {α : Type} {m : R α} {x : α} {y : PH} (s : m.Sat fun a h => a = x ∧ h = y) : m = .ok x y := by
  obtain ⟨a, h, e, rfl, rfl⟩ := s.ex
  exact e
theorem zbi (h : PH) : zbf [] h := fun p hp => by cases hp
section
variable {tbl : Nat → Fn}
theorem start_sat (h4 : tbl 4 = F_law_start) {k : Nat} {h : PH} {ns : List Int} (hn : ns.length ≤ 63) {Q : PV → PH → Prop}
    (q : ∀ h', St h' (h.length + 2) h.length (h.length + 1) 0 → Fr [] h h' → h'.length = h.length + 3 → Q (.ref (h.length + 2)) h') : (call tbl (k + 1) 4 [.cl (ns.map PV.int)] h).Sat Q := by
  rw [zao, h4]
  refine zbn rfl ?_
  simp only [F_law_start, zax, List.map, List.length, List.replicate, List.cons_append, List.nil_append]
  rw [zad, x_set]
  obtain ⟨I, hI⟩ : ∃ I : Nat → List PV → PH → Prop, I = fun i acc h' => h' = h ∧ ∃ gr : List Int, acc = gr.map PV.int ∧ (∀ x ∈ gr, 0 < x) ∧ gr.length ≤ i := ⟨_, rfl⟩
  refine v_compE (l := [.cl (ns.map PV.int)]) (h1 := h) (by simp) rfl I (by rw [hI]; exact ⟨rfl, [], rfl, by simp, Nat.le_refl _⟩) (fun i x acc h1 hx hi => ?_) (fun acc h1 hi => ?_)
  · rw [List.getElem?_map] at hx
    obtain ⟨y, hy, ex⟩ := Option.map_eq_some_iff.mp hx
    rw [hI] at hi
    obtain ⟨rfl, gr, rfl, g1, g2⟩ := hi
    subst ex
    have hi : i < 63 := by
      have := (List.getElem?_eq_some_iff.mp hy).1
      omega
    refine ⟨zbi _, [some (.cl (ns.map PV.int)), none, some (.int y)], rfl, ?_⟩
    have p1 : powOk 10 18 = true := by decide
    simp [b_pow, p1]
    by_cases hc : (1000000000000000000 : Int) ≤ y
    · refine .inr ⟨hc, zal (by omega), ?_⟩
      rw [hI]
      refine ⟨rfl, gr ++ [y], by simp, fun z hz => ?_, by rw [List.length_append]; simp; omega⟩
      rcases List.mem_append.mp hz with z1 | z1
      · exact g1 z z1
      · rw [List.mem_singleton.mp z1]
        omega
    · refine .inl ⟨by omega, ?_⟩
      rw [hI]
      exact ⟨rfl, gr, rfl, g1, by omega⟩
  · rw [hI] at hi
    obtain ⟨rfl, gr, rfl, g1, g2⟩ := hi
    rw [List.length_map] at g2
    refine ⟨zbi _, zal (by rw [List.length_map]; omega), ?_⟩
    simp
    obtain ⟨J, hJ⟩ : ∃ J : Nat → List PV → PH → Prop, J = fun i acc h' => h' = h1 ++ [.lst (gr.map PV.int)] ∧ ∃ cs : List Int, acc = cs.map PV.int ∧ (∀ x ∈ cs, 0 ≤ x ∧ x < 2147483587) ∧ cs.length ≤ i := ⟨_, rfl⟩
    refine v_compE (l := [.cl (ns.map PV.int)]) (h1 := h1 ++ [.lst (gr.map PV.int)]) (by simp) rfl J (by rw [hJ]; exact ⟨rfl, [], rfl, by simp, Nat.le_refl _⟩) (fun i x acc h2 hx hi => ?_) (fun acc h2 hi => ?_)
    · rw [List.getElem?_map] at hx
      obtain ⟨y, hy, ex⟩ := Option.map_eq_some_iff.mp hx
      rw [hJ] at hi
      obtain ⟨rfl, cs, rfl, c1, c2⟩ := hi
      subst ex
      have hi : i < 63 := by
        have := (List.getElem?_eq_some_iff.mp hy).1
        omega
      refine ⟨zbi _, [some (.cl (ns.map PV.int)), some (.ref h1.length), some (.int y)], rfl, ?_⟩
      have bm := b_mod (h := h1 ++ [.lst (gr.map PV.int)]) (i := y) (show (2147483587 : Int) ≠ 0 by decide)
      rw [fmod_pos (by decide)] at bm
      simp [bm]
      refine ⟨zal (by omega), ?_⟩
      rw [hJ]
      refine ⟨rfl, cs ++ [y % 2147483587], by simp, fun z hz => ?_, by rw [List.length_append]; simp; omega⟩
      rcases List.mem_append.mp hz with z1 | z1
      · exact c1 z z1
      · rw [List.mem_singleton.mp z1]
        exact ⟨Int.emod_nonneg _ (by decide), Int.emod_lt_of_pos _ (by decide)⟩
    · rw [hJ] at hi
      obtain ⟨rfl, cs, rfl, c1, c2⟩ := hi
      rw [List.length_map] at c2
      refine ⟨zbi _, zal (by rw [List.length_map]; omega), ?_⟩
      rw [zap _ (by simp)]
      simp
      have e : (h1 ++ [PO.lst (gr.map PV.int), PO.lst (cs.map PV.int), PO.lst [.ref h1.length, .int 0, .ref (h1.length + 1), .int 0]]).length = h1.length + 3 := by simp
      refine q _ ⟨⟨gr, 0, cs, 0, by simp, by simp, by simp, g1, c1, by omega, by decide, by decide, by decide⟩, by omega, by omega, by omega⟩ Fr.app e
theorem gcd_step (a b : Nat) (hb : 0 < b) : Int.gcd (b : Int) ((a : Int) % (b : Int)) = Int.gcd (a : Int) (b : Int) := by
  have e : ((a : Int) % (b : Int)) = ((a % b : Nat) : Int) := by simp
  rw [e]
  show Nat.gcd _ _ = Nat.gcd _ _
  simp only [Int.natAbs_natCast]
  rw [Nat.gcd_comm b, ← Nat.gcd_rec, Nat.gcd_comm]
/-- t over b in lowest terms, the bottom positive (b not nought) -/
def byOf (t b : Int) : Int := if b < 0 then -(Int.gcd t b : Nat) else (Int.gcd t b : Nat)
def lowP (t b : Int) : PV := .tup [.int (t.fdiv (byOf t b)), .int (b.fdiv (byOf t b))]
theorem byOf_ne {t b : Int} (hb : b ≠ 0) : byOf t b ≠ 0 := by
  have : Int.gcd t b ≠ 0 := fun z => hb (Int.gcd_eq_zero_iff.mp z).2
  unfold byOf
  split <;> omega
theorem byOf_le {t b : Int} (hb : b ≠ 0) : (byOf t b).natAbs ≤ b.natAbs := by
  have h1 : Int.gcd t b ∣ b.natAbs := by
    have := Int.natAbs_dvd_natAbs.mpr (Int.gcd_dvd_right t b)
    simpa using this
  have h2 := Nat.le_of_dvd (by omega) h1
  unfold byOf
  split <;> omega
theorem lowest_eq (h9 : tbl 9 = F_law_lowest) {k : Nat} {h : PH} {t b : Int} (hb : b ≠ 0) (hs : b.natAbs < 2 ^ 8000) : call tbl (k + 1) 9 [.int t, .int b] h = .ok (lowP t b) h := by
  refine R.Sat.eq ?_
  rw [zao, h9]
  refine zbn rfl ?_
  simp only [F_law_lowest, zax, List.map, List.length, List.replicate, List.cons_append, List.nil_append]
  have ab : ∀ x : Int, biF .abs [.int x] h = .ok (.int (x.natAbs : Nat)) h := fun x => by
    show R.ok (PV.int (if x < 0 then -x else x)) h = _
    congr 2
    split <;> omega
  rw [zad]
  simp [ab]
  rw [zad]
  simp [ab]
  rw [zad]
  obtain ⟨I, hI⟩ : ∃ I : Nat → Env → PH → Prop, I = fun (n : Nat) (ρ : Env) h' => h' = h ∧ ∃ x : Nat, ρ = [some (.int t), some (.int b), some (.int (x : Nat)), some (.int (n : Nat))] ∧ Int.gcd x n = Int.gcd t b := ⟨_, rfl⟩
  refine x_whl I b.natAbs (by rw [hI]; exact ⟨rfl, t.natAbs, rfl, by simp [Int.gcd]⟩) ?_
  intro n ρ h2 hi
  rw [hI] at hi
  obtain ⟨rfl, x, rfl, g⟩ := hi
  by_cases hn : 0 < n
  · have bm := b_mod (h := h2) (i := (x : Int)) (show (n : Int) ≠ 0 by omega)
    rw [fmod_pos (by omega)] at bm
    simp [hn, bm, setAll]
    refine ⟨x % n, Nat.mod_lt _ hn, ?_⟩
    rw [hI]
    exact ⟨rfl, n, by simp, by rw [Int.natCast_emod, gcd_step x n hn]; exact g⟩
  · have : n = 0 := by omega
    subst this
    have g' : (x : Int) = (Int.gcd t b : Nat) := by
      rw [← g]
      simp
    have dv : divOk (byOf t b) = true := div_ok (byOf_ne hb) (Nat.lt_of_le_of_lt (byOf_le hb) hs) (by decide) (by decide)
    simp
    rw [zad]
    by_cases hneg : b < 0
    · have e : byOf t b = -(x : Int) := by unfold byOf; rw [if_pos hneg, g']
      rw [e] at dv
      simp [hneg, b_fdiv, dv]
      simp [lowP, e]
    · have e : byOf t b = (x : Int) := by unfold byOf; rw [if_neg hneg, g']
      rw [e] at dv
      simp [hneg, b_fdiv, dv]
      simp [lowP, e]
end
end Sb
namespace Sb
open PySem
/-- a comprehension with no condition, as a map -/
theorem v_mapE {C : Calls} {tg : List Nat} {one : TgK} {k : ITK} {its : List E} {own : List Nat} {a : E} {ρ : Env} {h h1 : PH} {Q : PV → PH → Prop} {l items : List PV} {kp : Keep} (e1 : evGs C its ρ h = .ok l h1) (e2 : walkF k l h1 = some (items, kp)) (f : PV → PV) (P : PH → Prop) (h0 : P h1) (hk : ∀ h, P h → zbf kp h) (hl : items.length ≤ 1000000)
    (hs : ∀ x ∈ items, ∀ h, P h → ∃ ρ1, zbp (wipeP ρ own) tg one x = some ρ1 ∧ (evG C a false ρ1 h).Sat fun v h2 => v = f x ∧ P h2)
    (hd : ∀ h, P h → Q (.ref h.length) (h ++ [.lst (items.map f)])) : (evG C (.comp a tg one k its none own) false ρ h).Sat Q := by
  refine v_compE e1 e2 (fun i acc h => P h ∧ acc = (items.take i).map f) ⟨h0, rfl⟩ (fun i x acc h hx hi => ?_) fun acc h hi => ?_
  · obtain ⟨p, rfl⟩ := hi
    have hm := List.mem_of_getElem? hx
    have hlt := (List.getElem?_eq_some_iff.mp hx).1
    obtain ⟨ρ1, q1, q2⟩ := hs x hm h p
    refine ⟨hk h p, ρ1, q1, ?_⟩
    rw [gc_none, zan, if_pos rfl]
    refine q2.imp fun v h2 ⟨r1, r2⟩ => ⟨zal (by simp; omega), r2, ?_⟩
    rw [r1, List.take_add_one, hx]
    simp
  · obtain ⟨p, rfl⟩ := hi
    refine ⟨hk h p, zal (by simp; omega), ?_⟩
    rw [List.take_length]
    exact hd h p
theorem bools_map : ∀ bs : List Bool, boolsOf (bs.map PV.bl) = some bs
  | [] => rfl
  | b :: r => by
    show (boolsOf (r.map PV.bl)).map (b :: ·) = _
    rw [bools_map r]
    rfl
theorem all_ref {h : PH} {n : Nat} {bs : List Bool} (e : h[n]? = some (.lst (bs.map PV.bl))) : biF .all [.ref n] h = .ok (.bl (bs.all id)) h := by
  show (match (listOf h (.ref n)).bind boolsOf with | some bs => R.ok (PV.bl (bs.all id)) h | none => .no) = _
  have : (listOf h (.ref n)).bind boolsOf = some bs := by
    simp only [listOf, e, Option.bind_some, bools_map]
  rw [this]
theorem ty_ref {h : PH} {m : Nat} {l : List PV} (e : h[m]? = some (.lst l)) : tyOf h (.ref m) = some .list := by simp only [tyOf, e]
end Sb
namespace Sb
open PySem
def fq (q : Rat) : PV := .tup [.int q.num, .int (q.den : Nat)]
theorem low_fq {t b : Int} (hb : b ≠ 0) : lowP t b = fq (Rat.divInt t b) := by
  unfold lowP fq
  rw [Rat.num_divInt, Rat.den_divInt, if_neg hb, Int.gcd_comm b t]
  have hg : (Int.gcd t b : Nat) ≠ 0 := fun z => hb (Int.gcd_eq_zero_iff.mp z).2
  have d1 : ((Int.gcd t b : Nat) : Int) ∣ t := Int.gcd_dvd_left ..
  have d2 : ((Int.gcd t b : Nat) : Int) ∣ b := Int.gcd_dvd_right ..
  generalize hgg : Int.gcd t b = g at hg d1 d2
  unfold byOf
  rw [hgg]
  obtain ⟨x, rfl⟩ := d1
  obtain ⟨y, rfl⟩ := d2
  have gz : (g : Int) ≠ 0 := by omega
  have gp : (0 : Int) < g := by omega
  by_cases hn : (g : Int) * y < 0
  · rw [if_pos hn]
    have yn : y < 0 := by
      rcases Int.lt_or_le y 0 with z | z
      · exact z
      · have := Int.mul_nonneg (Int.le_of_lt gp) z
        omega
    have e1 : ((g : Int) * x).fdiv (-(g : Int)) = -x := by
      rw [show (g : Int) * x = (-(g : Int)) * (-x) by rw [Int.neg_mul_neg]]
      exact Int.mul_fdiv_cancel_left _ (by omega)
    have e2 : ((g : Int) * y).fdiv (-(g : Int)) = -y := by
      rw [show (g : Int) * y = (-(g : Int)) * (-y) by rw [Int.neg_mul_neg]]
      exact Int.mul_fdiv_cancel_left _ (by omega)
    rw [e1, e2, Int.sign_eq_neg_one_of_neg hn]
    have e3 : (-1 : Int) * ((g : Int) * x) / (g : Int) = -x := by
      rw [show (-1 : Int) * ((g : Int) * x) = (g : Int) * (-x) by rw [Int.mul_neg]; omega]
      exact Int.mul_ediv_cancel_left _ gz
    have e4 : ((g : Int) * y).natAbs / g = y.natAbs := by
      rw [Int.natAbs_mul, Int.natAbs_natCast, Nat.mul_div_cancel_left _ (by omega)]
    rw [e3, e4]
    rw [show ((y.natAbs : Nat) : Int) = -y by omega]
  · rw [if_neg hn]
    have yz : y ≠ 0 := fun z => hb (by rw [z, Int.mul_zero])
    have yp : 0 < y := by
      rcases Int.lt_or_le 0 y with z | z
      · exact z
      · have : (g : Int) * (-y) > 0 := Int.mul_pos gp (by omega)
        rw [Int.mul_neg] at this
        omega
    have e1 : ((g : Int) * x).fdiv (g : Int) = x := Int.mul_fdiv_cancel_left _ gz
    have e2 : ((g : Int) * y).fdiv (g : Int) = y := Int.mul_fdiv_cancel_left _ gz
    rw [e1, e2, Int.sign_eq_one_of_pos (Int.mul_pos gp yp), Int.one_mul, Int.mul_ediv_cancel_left _ gz]
    have e4 : ((g : Int) * y).natAbs / g = y.natAbs := by
      rw [Int.natAbs_mul, Int.natAbs_natCast, Nat.mul_div_cancel_left _ (by omega)]
    rw [e4]
    rw [show ((y.natAbs : Nat) : Int) = y by omega]
/-- both numbers below 2 ^ n -/
structure Qs (n : Nat) (q : Rat) : Prop where
  num : q.num.natAbs < 2 ^ n
  den : q.den < 2 ^ n
theorem Qs.mono {n m : Nat} {q : Rat} (h : Qs n q) (l : n ≤ m) : Qs m q := ⟨Nat.lt_of_lt_of_le h.num (Nat.pow_le_pow_right (by decide) l), Nat.lt_of_lt_of_le h.den (Nat.pow_le_pow_right (by decide) l)⟩
theorem divInt_le {t b : Int} (hb : b ≠ 0) : (Rat.divInt t b).num.natAbs ≤ t.natAbs ∧ (Rat.divInt t b).den ≤ b.natAbs := by
  rw [Rat.num_divInt, Rat.den_divInt, if_neg hb]
  refine ⟨?_, Nat.div_le_self _ _⟩
  rcases Int.lt_or_lt_of_ne hb with z | z
  · rw [Int.sign_eq_neg_one_of_neg z]
    refine Nat.le_trans (Int.natAbs_ediv_le_natAbs _ _) ?_
    omega
  · rw [Int.sign_eq_one_of_pos z, Int.one_mul]
    exact Int.natAbs_ediv_le_natAbs _ _
theorem Qs.divInt {n : Nat} {t b : Int} (hb : b ≠ 0) (h1 : t.natAbs < 2 ^ n) (h2 : b.natAbs < 2 ^ n) : Qs n (Rat.divInt t b) := ⟨Nat.lt_of_le_of_lt (divInt_le hb).1 h1, Nat.lt_of_le_of_lt (divInt_le hb).2 h2⟩
theorem mul_lt_pow {a b n m : Nat} (h1 : a < 2 ^ n) (h2 : b < 2 ^ m) : a * b < 2 ^ (n + m) := by
  rw [Nat.pow_add]
  exact Nat.mul_lt_mul'' h1 h2
theorem den_ne (q : Rat) : ((q.den : Nat) : Int) ≠ 0 := by
  have := q.den_nz
  omega
theorem dd_ne (a b : Rat) : ((a.den : Nat) : Int) * ((b.den : Nat) : Int) ≠ 0 := Int.mul_ne_zero (den_ne a) (den_ne b)
theorem add_divInt (a b : Rat) : a + b = Rat.divInt (a.num * b.den + b.num * a.den) (a.den * b.den) := by
  rw [Rat.add_def', ← Rat.divInt_ofNat, Int.natCast_mul]
theorem sub_divInt (a b : Rat) : a - b = Rat.divInt (a.num * b.den - b.num * a.den) (a.den * b.den) := by
  rw [Rat.sub_def', ← Rat.divInt_ofNat, Int.natCast_mul]
theorem mul_divInt (a b : Rat) : a * b = Rat.divInt (a.num * b.num) (a.den * b.den) := by
  rw [Rat.mul_def', ← Rat.divInt_ofNat, Int.natCast_mul]
theorem div_divInt (a b : Rat) (hb : b.num ≠ 0) : a / b = Rat.divInt (a.num * b.den) (a.den * b.num) := by
  rw [Rat.div_def, Rat.inv_def]
  conv => lhs; rw [← Rat.num_divInt_den a]
  rw [Rat.divInt_mul_divInt]
section
variable {n m : Nat} {a b : Rat}
theorem Qs.nd (h : Qs n a) (g : Qs m b) : (a.num * (b.den : Int)).natAbs < 2 ^ (n + m) := by
  rw [Int.natAbs_mul]
  exact mul_lt_pow h.num (by simpa using g.den)
theorem Qs.nn (h : Qs n a) (g : Qs m b) : (a.num * b.num).natAbs < 2 ^ (n + m) := by
  rw [Int.natAbs_mul]
  exact mul_lt_pow h.num g.num
theorem Qs.dn (h : Qs n a) (g : Qs m b) : ((a.den : Int) * b.num).natAbs < 2 ^ (n + m) := by
  rw [Int.natAbs_mul]
  exact mul_lt_pow (by simpa using h.den) g.num
theorem Qs.dd (h : Qs n a) (g : Qs m b) : ((a.den : Int) * (b.den : Int)).natAbs < 2 ^ (n + m) := by
  rw [Int.natAbs_mul]
  exact mul_lt_pow (by simpa using h.den) (by simpa using g.den)
theorem pow_s (k : Nat) : 2 ^ (k + 1) = 2 ^ k + 2 ^ k := by rw [Nat.pow_succ]; omega
theorem Qs.add (h : Qs n a) (g : Qs m b) : Qs (n + m + 1) (a + b) := by
  rw [add_divInt]
  have h1 := h.nd g
  have h2 := g.nd h
  rw [Nat.add_comm m n] at h2
  have h3 := h.dd g
  have h4 := pow_s (n + m)
  exact .divInt (dd_ne a b) (by omega) (by omega)
theorem Qs.sub (h : Qs n a) (g : Qs m b) : Qs (n + m + 1) (a - b) := by
  rw [sub_divInt]
  have h1 := h.nd g
  have h2 := g.nd h
  rw [Nat.add_comm m n] at h2
  have h3 := h.dd g
  have h4 := pow_s (n + m)
  exact .divInt (dd_ne a b) (by omega) (by omega)
theorem Qs.mul (h : Qs n a) (g : Qs m b) : Qs (n + m) (a * b) := by
  rw [mul_divInt]
  exact .divInt (dd_ne a b) (h.nn g) (h.dd g)
theorem Qs.div (h : Qs n a) (g : Qs m b) (hb : b.num ≠ 0) : Qs (n + m) (a / b) := by
  rw [div_divInt a b hb]
  exact .divInt (Int.mul_ne_zero (den_ne a) hb) (h.nd g) (h.dn g)
theorem Qs.neg (h : Qs n a) : Qs n (-a) := ⟨by rw [Rat.neg_num, Int.natAbs_neg]; exact h.num, h.den⟩
theorem Qs.inv (h : Qs n a) (hb : a.num ≠ 0) : Qs n a⁻¹ := by
  rw [Rat.inv_def]
  exact .divInt hb (by simpa using h.den) h.num
theorem Qs.pos (h : Qs n a) : 0 < n := by
  cases n with
  | zero =>
    have := h.den
    have := a.den_nz
    omega
  | succ n => exact Nat.succ_pos _
end
theorem num_ne {q : Rat} (h : q ≠ 0) : q.num ≠ 0 := fun z => h (Rat.num_eq_zero.mp z)
section
variable {tbl : Nat → Fn}
theorem lowq (h9 : tbl 9 = F_law_lowest) {k : Nat} {h : PH} {t b : Int} (hb : b ≠ 0) (hs : b.natAbs < 2 ^ 8000) : call tbl (k + 1) 9 [.int t, .int b] h = .ok (fq (Rat.divInt t b)) h := by rw [lowest_eq h9 hb hs, low_fq hb]
end
/-- the parts of a fraction, no greater than these -/
structure Bd (N M : Nat) (q : Rat) : Prop where
  num : q.num.natAbs ≤ N
  den : q.den ≤ M
theorem Bd.divInt {N M : Nat} {t b : Int} (hb : b ≠ 0) (h1 : t.natAbs ≤ N) (h2 : b.natAbs ≤ M) : Bd N M (Rat.divInt t b) := ⟨Nat.le_trans (divInt_le hb).1 h1, Nat.le_trans (divInt_le hb).2 h2⟩
theorem Bd.mul {N M N' M' : Nat} {a b : Rat} (h : Bd N M a) (g : Bd N' M' b) : Bd (N * N') (M * M') (a * b) := by
  rw [mul_divInt]
  refine .divInt (dd_ne a b) ?_ ?_
  · rw [Int.natAbs_mul]
    exact Nat.mul_le_mul h.num g.num
  · rw [Int.natAbs_mul]
    exact Nat.mul_le_mul h.den g.den
theorem Bd.nd {N M N' M' : Nat} {a b : Rat} (h : Bd N M a) (g : Bd N' M' b) : (a.num * (b.den : Int)).natAbs ≤ N * M' := by
  rw [Int.natAbs_mul]
  exact Nat.mul_le_mul h.num g.den
theorem Bd.add {N M N' M' : Nat} {a b : Rat} (h : Bd N M a) (g : Bd N' M' b) : Bd (N * M' + N' * M) (M * M') (a + b) := by
  rw [add_divInt]
  refine .divInt (dd_ne a b) (Nat.le_trans (Int.natAbs_add_le ..) (Nat.add_le_add (h.nd g) (g.nd h))) ?_
  rw [Int.natAbs_mul]
  exact Nat.mul_le_mul h.den g.den
theorem Bd.sub {N M N' M' : Nat} {a b : Rat} (h : Bd N M a) (g : Bd N' M' b) : Bd (N * M' + N' * M) (M * M') (a - b) := by
  rw [sub_divInt]
  refine .divInt (dd_ne a b) (Nat.le_trans (Int.natAbs_sub_le ..) (Nat.add_le_add (h.nd g) (g.nd h))) ?_
  rw [Int.natAbs_mul]
  exact Nat.mul_le_mul h.den g.den
theorem Bd.div {N M N' M' : Nat} {a b : Rat} (h : Bd N M a) (g : Bd N' M' b) (hb : b.num ≠ 0) : Bd (N * M') (M * N') (a / b) := by
  rw [div_divInt a b hb]
  refine .divInt (Int.mul_ne_zero (den_ne a) hb) (h.nd g) ?_
  rw [Int.natAbs_mul]
  exact Nat.mul_le_mul h.den g.num
theorem Bd.neg {N M : Nat} {a : Rat} (h : Bd N M a) : Bd N M (-a) := ⟨by rw [Rat.neg_num, Int.natAbs_neg]; exact h.num, h.den⟩
/-- at most twelve figures -/
structure NearQ (q : Rat) : Prop where
  num : q.num.natAbs < 1000000000000
  den : q.den < 1000000000000
end Sb
namespace Sb
open PySem
/-- two things that the laws call the same, down to d levels -/
def sameP (h : PH) : Nat → PV → PV → Prop
  | _, .non, .non => True
  | _, .bl a, .bl b => a = b
  | _, .int a, .int b => a = b
  | _, .str a, .str b => a = b
  | d + 1, .tup l, .tup k => l.length = k.length ∧ l.length ≤ 1000000 ∧ ∀ (i : Nat) x y, l[i]? = some x → k[i]? = some y → sameP h d x y
  | d + 1, .ref m, .ref n => ∃ l k, h[m]? = some (.lst l) ∧ h[n]? = some (.lst k) ∧ l.length = k.length ∧ l.length ≤ 1000000 ∧ ∀ (i : Nat) x y, l[i]? = some x → k[i]? = some y → sameP h d x y
  | _, _, _ => False
theorem sameP.app {h t : PH} : ∀ {d : Nat} {v w : PV}, sameP h d v w → sameP (h ++ t) d v w
  | d, .non, w, s => by cases d <;> cases w <;> first | trivial | exact s.elim
  | d, .bl _, w, s => by cases d <;> cases w <;> first | exact s | exact s.elim
  | d, .int _, w, s => by cases d <;> cases w <;> first | exact s | exact s.elim
  | d, .str _, w, s => by cases d <;> cases w <;> first | exact s | exact s.elim
  | 0, .tup _, w, s => by cases w <;> exact s.elim
  | 0, .ref _, w, s => by cases w <;> exact s.elim
  | d, .cl _, w, s => by cases d <;> cases w <;> exact s.elim
  | d, .ty _, w, s => by cases d <;> cases w <;> exact s.elim
  | d, .cls _, w, s => by cases d <;> cases w <;> exact s.elim
  | d, .ste _, w, s => by cases d <;> cases w <;> exact s.elim
  | d, .exv _ _ _, w, s => by cases d <;> cases w <;> exact s.elim
  | d, .xc _ _ _, w, s => by cases d <;> cases w <;> exact s.elim
  | d + 1, .tup l, w, s => by
    cases w with
    | tup k => exact ⟨s.1, s.2.1, fun i x y h1 h2 => (s.2.2 i x y h1 h2).app⟩
    | _ => exact s.elim
  | d + 1, .ref m, w, s => by
    cases w with
    | ref n =>
      obtain ⟨l, k, e1, e2, e3, e4, e5⟩ := s
      refine ⟨l, k, ?_, ?_, e3, e4, fun i x y h1 h2 => (e5 i x y h1 h2).app⟩
      · rw [List.getElem?_append_left (List.getElem?_eq_some_iff.mp e1).1]; exact e1
      · rw [List.getElem?_append_left (List.getElem?_eq_some_iff.mp e2).1]; exact e2
    | _ => exact s.elim
theorem zip_get : ∀ {l k : List PV} {x : PV} {i : Nat}, (zipP l k)[i]? = some x → ∃ a b, x = .tup [a, b] ∧ l[i]? = some a ∧ k[i]? = some b
  | [], k, x, i, e => by
    rw [show zipP [] k = [] by cases k <;> rfl] at e
    simp at e
  | _ :: _, [], x, i, e => by
    rw [show zipP (_ :: _) [] = [] from rfl] at e
    simp at e
  | a :: l, b :: k, x, 0, e => by
    rw [show zipP (a :: l) (b :: k) = .tup [a, b] :: zipP l k from rfl] at e
    simp at e
    exact ⟨a, b, e.symm, rfl, rfl⟩
  | a :: l, b :: k, x, i + 1, e => by
    rw [show zipP (a :: l) (b :: k) = .tup [a, b] :: zipP l k from rfl] at e
    simp at e
    obtain ⟨a', b', e1, e2, e3⟩ := zip_get e
    exact ⟨a', b', e1, by simpa using e2, by simpa using e3⟩
theorem zip_len : ∀ {l k : List PV}, (zipP l k).length ≤ l.length
  | [], k => by cases k <;> exact Nat.le_refl _
  | _ :: _, [] => Nat.zero_le _
  | a :: l, b :: k => Nat.succ_le_succ zip_len
theorem mem_get {α : Type} {l : List α} {x : α} (h : x ∈ l) : ∃ i : Nat, l[i]? = some x := by
  obtain ⟨i, hi, e⟩ := List.mem_iff_getElem.mp h
  exact ⟨i, List.getElem?_eq_some_iff.mpr ⟨hi, e⟩⟩
section
variable {tbl : Nat → Fn}
theorem same_sat (h7 : tbl 7 = F_law_same) : ∀ {d k : Nat} {h : PH} {v w : PV} {Q : PV → PH → Prop} (s : sameP h d v w) (q : ∀ t, Q (.bl true) (h ++ t)), (call tbl (k + d + 1) 7 [v, w] h).Sat Q := by
  intro d
  induction d with
  | zero =>
    intro k h v w Q s q
    have q0 : Q (.bl true) h := by simpa using q []
    rw [zao, h7]
    refine zbn rfl ?_
    simp only [F_law_same, zax, List.map, List.length, List.replicate, List.cons_append, List.nil_append]
    cases v <;> cases w <;> first | exact s.elim | skip
    all_goals simp [sameP] at s
    all_goals try subst s
    all_goals simp [zad, biF, zbr, tyOf, tysOf, isTy, isNonP, q0]
  | succ d ih =>
    intro k h v w Q s q
    have q0 : Q (.bl true) h := by simpa using q []
    rw [zao, h7]
    refine zbn rfl ?_
    simp only [F_law_same, zax, List.map, List.length, List.replicate, List.cons_append, List.nil_append]
    have go : ∀ (vw : List PV) (kp : Keep) (l m : List PV) (ρ : Env), evGs (call tbl (k + (d + 1))) [(.var 0), (.var 1)] ρ h = .ok vw h → walkF .zip vw h = some (zipP l m, kp) → zbf kp h → l.length ≤ 1000000 → (∀ (i : Nat) x y, l[i]? = some x → m[i]? = some y → sameP h d x y) → (∀ a b, ∃ ρ1, zbp (wipeP ρ [2, 3]) [2, 3] .tup (.tup [a, b]) = some ρ1 ∧ ρ1.get 2 = some a ∧ ρ1.get 3 = some b) →
        (evG (call tbl (k + (d + 1))) (.bi .all [(.comp (.call 7 [(.var 2), (.var 3)] []) [2, 3] .tup .zip [(.var 0), (.var 1)] none [2, 3])]) false ρ h).Sat Q := by
      intro vw kp l m ρ e1 e2 hk hl hs hρ
      simp
      refine v_mapE e1 e2 (fun _ => .bl true) (fun h' => ∃ t, h' = h ++ t) ⟨[], by simp⟩ (fun h' e y hy => ?_) (Nat.le_trans zip_len hl) (fun x hx h' e => ?_) fun h' e => ?_
      · obtain ⟨t, rfl⟩ := e
        have := hk y hy
        rw [List.getElem?_append_left (List.getElem?_eq_some_iff.mp this).1]
        exact this
      · obtain ⟨t, rfl⟩ := e
        obtain ⟨i, hi⟩ := mem_get hx
        obtain ⟨a, b, rfl, ea, eb⟩ := zip_get hi
        obtain ⟨ρ1, p1, p2, p3⟩ := hρ a b
        refine ⟨ρ1, p1, ?_⟩
        simp [p2, p3]
        have := ih (k := k) (h := h ++ t) (Q := fun v h2 => v = .bl true ∧ ∃ t, h2 = h ++ t) (hs i a b ea eb).app fun t2 => ⟨rfl, t ++ t2, by simp⟩
        exact this
      · obtain ⟨t, e0⟩ := e
        have e : (h' ++ [PO.lst ((zipP l m).map fun _ => PV.bl true)])[h'.length]? = some (.lst (((zipP l m).map fun _ => true).map PV.bl)) := by simp
        rw [all_ref e]
        rw [e0]
        have := q (t ++ [PO.lst ((zipP l m).map fun _ => PV.bl true)])
        have at_ : ((zipP l m).all fun _ => true) = true := by simp
        simpa [at_] using this
    cases v with
    | tup l =>
      cases w with
      | tup m =>
        obtain ⟨s1, s2, s3⟩ := s
        rw [zad]
        simp [biF, zbr, tyOf, tysOf, isTy]
        rw [zad]
        simp [biF, zbr, tyOf, tysOf, isTy]
        rw [zad]
        simp [biF, zbr, tyOf, tysOf, isTy, biLen, seqOf, s1]
        have := go [.tup l, .tup m] [] l m [some (.tup l), some (.tup m), none, none] (by simp) rfl (zbi _) s2 s3 fun a b => ⟨_, rfl, rfl, rfl⟩
        simpa [biF] using this
      | _ => exact s.elim
    | ref m =>
      cases w with
      | ref n =>
        obtain ⟨l, m', e1, e2, s1, s2, s3⟩ := s
        rw [zad]
        simp [biF, zbr, tyOf, tysOf, isTy, e1, e2]
        rw [zad]
        simp [biF, zbr, tyOf, tysOf, isTy, e1, e2]
        rw [zad]
        simp [biF, zbr, tyOf, tysOf, isTy, biLen, seqOf, s1, e1, e2]
        have := go [.ref m, .ref n] [(m, l), (n, m')] l m' [some (.ref m), some (.ref n), none, none] (by simp) (by show walkZip [.ref m, .ref n] h = _; simp only [walkZip, e1, e2]) (fun y hy => by
          simp only [List.mem_cons, List.not_mem_nil, or_false] at hy
          rcases hy with rfl | rfl
          · exact e1
          · exact e2) s2 s3 fun a b => ⟨_, rfl, rfl, rfl⟩
        simpa [biF] using this
      | _ => exact s.elim
    | cl l => cases w <;> exact s.elim
    | ty l => cases w <;> exact s.elim
    | ste l => cases w <;> exact s.elim
    | exv _ _ _ => cases w <;> exact s.elim
    | cls l => cases w <;> exact s.elim
    | xc l a b => cases w <;> exact s.elim
    | _ =>
      cases w <;> first | exact s.elim | skip
      all_goals simp [sameP] at s
      all_goals try subst s
      all_goals simp [zad, biF, zbr, tyOf, tysOf, isTy, isNonP, q0]
end
theorem same_fq {h : PH} {d : Nat} (q : Rat) : sameP h (d + 1) (fq q) (fq q) := ⟨rfl, Nat.le_of_ble_eq_true rfl, fun i x y h1 h2 => by
  rw [h1] at h2
  cases h2
  have := List.mem_of_getElem? h1
  simp only [List.mem_cons, List.not_mem_nil, or_false] at this
  rcases this with rfl | rfl <;> cases d <;> rfl⟩
section
variable {tbl : Nat → Fn} {k n m o : Nat} {h : PH} {a b c d x : Rat}
structure TL (tbl : Nat → Fn) : Prop where
  h9 : tbl 9 = F_law_lowest
  h24 : tbl 24 = F_law_plus
  h25 : tbl 25 = F_law_times
  h26 : tbl 26 = F_law_led
  h27 : tbl 27 = F_law_then
  h28 : tbl 28 = F_law_back
theorem q1 : Qs 1 1 := ⟨by decide, by decide⟩
theorem q0 : Qs 1 0 := ⟨by decide, by decide⟩
end
end Sb
namespace Sb
open PySem
theorem St.lt {h : PH} {s g c B : Nat} (st : St h s g c B) : s < h.length ∧ g < h.length ∧ c < h.length := by
  obtain ⟨gr, cur, cs, cnt, e1, e2, e3, r⟩ := st.ex
  exact ⟨(List.getElem?_eq_some_iff.mp e1).1, (List.getElem?_eq_some_iff.mp e2).1, (List.getElem?_eq_some_iff.mp e3).1⟩
theorem Fr.setNew {S : List Nat} {h h1 : PH} {m : Nat} {o : PO} (f : Fr S h h1) (hm : h.length ≤ m) : Fr S h (h1.set m o) := ⟨by rw [List.length_set]; exact f.len, fun n hn hl => by
  rw [List.getElem?_set_ne (by omega)]
  exact f.at_ n hn hl⟩
theorem St.setNew {h : PH} {s g c B m : Nat} {o : PO} (st : St h s g c B) (h1 : m ≠ s) (h2 : m ≠ g) (h3 : m ≠ c) : St (h.set m o) s g c B :=
  st.frame (S := [m]) (Fr.set (by simp)) (by simp; omega) (by simp; omega) (by simp; omega)
section
variable {C : Calls} {t : Bool} {ρ : Env} {h : PH} {a b c : E}
@[simp] theorem g_srt : evG C (.srt a) t ρ h = fin t ((evG C a false ρ h).bind fun x h1 => srtop x h1) := by rfl
@[simp] theorem g_dct (es : List E) : evG C (.dct es) t ρ h = fin t ((evGs C es ρ h).bind fun l h1 => match pairUp l with | some l => allocD (mergeP [] l) h1 | none => .no) := by rfl
end
abbrev tlS (x : Str) : List Nat := x.cps.toList
/-- a small text of small letters -/
structure Nm (x : Str) : Prop where
  len : (tlS x).length ≤ 8
  pos : 0 < (tlS x).length
  low : ∀ c ∈ tlS x, 97 ≤ c ∧ c ≤ 122
theorem Nm.ok {x : Str} (n : Nm x) : strOkP x = true := by
  unfold strOkP
  rw [Array.all_eq_true_iff_forall_mem]
  intro c hc
  have := n.low c (by simpa [tlS] using hc)
  exact decide_eq_true (by omega)
theorem strs_map : ∀ xs : List Str, strsOf (xs.map PV.str) = some xs
  | [] => rfl
  | x :: r => by
    show (strsOf (r.map PV.str)).map (x :: ·) = _
    rw [strs_map r]
    rfl
def T25 : List Nat := tlS ("abcdefghijklmnopqrstuvxyz" : Str)
theorem t25 : T25 = [97, 98, 99, 100, 101, 102, 103, 104, 105, 106, 107, 108, 109, 110, 111, 112, 113, 114, 115, 116, 117, 118, 120, 121, 122] := by decide +kernel
theorem t25_nd : T25.Nodup := by rw [t25]; decide
theorem t3 : tlS ("abz" : Str) = [97, 98, 122] := by decide +kernel
theorem mapO_some {α β : Type} {f : α → Option β} {g : α → β} : ∀ {l : List α}, (∀ x ∈ l, f x = some (g x)) → mapO f l = some (l.map g)
  | [], _ => rfl
  | a :: r, q => by
    unfold mapO
    rw [q a (List.mem_cons_self ..), mapO_some fun x hx => q x (List.mem_cons_of_mem _ hx)]
    rfl
theorem pd_str {h : PH} {d : Nat} {x : Str} (n : strOkP x = true) : pd h d (.str x) = some (.str x) := by
  cases d <;> simp [pd, n]
end Sb
namespace Sb
open PySem
/-- the names made so far: unlike, small, and where a name holds a w it is of a number below i -/
structure Nms (ns : List Str) : Prop where
  nd : ns.Nodup
  nm : ∀ x ∈ ns, Nm x
  w3 : ∀ x ∈ ns, 119 ∉ tlS x ∨ (tlS x).length = 3
structure NmsI (i : Nat) (ns : List Str) : Prop extends Nms ns where
  len : ns.length = i
  w : ∀ x ∈ ns, 119 ∉ tlS x ∨ ∃ j a b, j < i ∧ tlS x = [119, a, b] ∧ T25[j / 25]? = some a ∧ T25[j % 25]? = some b
theorem NmsI.add {i : Nat} {ns : List Str} {x : Str} (n : NmsI i ns) (hx : x ∉ ns) (h1 : Nm x) (h2 : 119 ∉ tlS x ∨ ∃ j a b, j < i + 1 ∧ tlS x = [119, a, b] ∧ T25[j / 25]? = some a ∧ T25[j % 25]? = some b) : NmsI (i + 1) (ns ++ [x]) := by
  refine ⟨⟨?_, fun y hy => ?_, fun y hy => ?_⟩, by simp [n.len], fun y hy => ?_⟩
  · rw [List.nodup_append]
    refine ⟨n.nd, by simp, fun a ha b hb => ?_⟩
    rw [List.mem_singleton.mp hb]
    rintro rfl
    exact hx ha
  · rcases List.mem_append.mp hy with z | z
    · exact n.nm y z
    · rw [List.mem_singleton.mp z]
      exact h1
  · rcases List.mem_append.mp hy with z | z
    · exact n.w3 y z
    · rw [List.mem_singleton.mp z]
      rcases h2 with z | ⟨j, a, b, _, z2, _⟩
      · exact .inl z
      · exact .inr (by rw [z2]; rfl)
  · rcases List.mem_append.mp hy with z | z
    · rcases n.w y z with z | ⟨j, a, b, z1, z2⟩
      · exact .inl z
      · exact .inr ⟨j, a, b, by omega, z2⟩
    · rw [List.mem_singleton.mp z]
      exact h2
theorem NmsI.fresh {i : Nat} {ns : List Str} {x : Str} {a b : Nat} (n : NmsI i ns) (e : tlS x = [119, a, b]) (ha : T25[i / 25]? = some a) (hb : T25[i % 25]? = some b) : x ∉ ns := by
  intro hx
  rcases n.w x hx with z | ⟨j, a', b', z1, z2, z3, z4⟩
  · exact z (by rw [e]; simp)
  · rw [e] at z2
    simp only [List.cons.injEq, and_true, true_and] at z2
    obtain ⟨rfl, rfl⟩ := z2
    have l1 := (List.getElem?_eq_some_iff.mp ha).1
    have l2 := (List.getElem?_eq_some_iff.mp hb).1
    have e1 := (List.getElem?_inj l1 t25_nd).mp (ha.trans z3.symm)
    have e2 := (List.getElem?_inj l2 t25_nd).mp (hb.trans z4.symm)
    omega
end Sb
namespace Sb
open PySem
theorem find_map_put {k k' : L2.Key} {v : PV} : ∀ l : List (L2.Key × PV), (l.map fun kv => if kv.1 = k then (kv.1, v) else kv).find? (fun kv => decide (kv.1 = k')) = if k' = k then (l.find? fun kv => decide (kv.1 = k)).map fun kv => (kv.1, v) else l.find? fun kv => decide (kv.1 = k')
  | [] => by simp
  | (a, b) :: r => by
    rw [List.map_cons]
    by_cases e : a = k
    · subst e
      by_cases e2 : k' = a
      · subst e2
        simp
      · have : ¬ a = k' := fun z => e2 z.symm
        simp [e2, this]
        have ih := find_map_put (k := a) (k' := k') (v := v) r
        simpa [e2] using ih
    · have ih := find_map_put (k := k) (k' := k') (v := v) r
      simp only [if_neg e]
      by_cases e3 : a = k'
      · subst e3
        simp [e]
      · simp only [List.find?_cons, e3, decide_false, e]
        exact ih
theorem val_put (l : List (L2.Key × PV)) (k k' : L2.Key) (v : PV) : valP (putP l k v) k' = if k' = k then some v else valP l k' := by
  unfold putP valP
  by_cases c : (l.any fun kv => decide (kv.1 = k)) = true
  · rw [if_pos c, find_map_put]
    by_cases e : k' = k
    · rw [if_pos e, if_pos e]
      obtain ⟨x, hx, ex⟩ := List.any_eq_true.mp c
      cases hf : l.find? fun kv => decide (kv.1 = k) with
      | none =>
        have := List.find?_eq_none.mp hf x hx
        exact absurd ex this
      | some y => rfl
    · rw [if_neg e, if_neg e]
  · rw [if_neg c, List.find?_append]
    by_cases e : k' = k
    · subst e
      have : l.find? (fun kv => decide (kv.1 = k')) = none := by
        rw [List.find?_eq_none]
        intro x hx z
        exact c (List.any_eq_true.mpr ⟨x, hx, z⟩)
      rw [this]
      simp
    · have : ¬ k = k' := fun z => e z.symm
      rw [if_neg e]
      simp [this]
/-- a scale's move in a world -/
structure Wb (q : Rat) : Prop where
  qs : Qs 12 q
  top : q.num.natAbs ≤ 999
  bot : q.den ≤ 99
theorem Wb.divInt {t b : Int} (hb : b ≠ 0) (h1 : t.natAbs ≤ 999) (h2 : b.natAbs ≤ 99) : Wb (Rat.divInt t b) := ⟨Qs.divInt hb (by omega) (by omega), (Bd.divInt hb h1 h2).num, (Bd.divInt hb h1 h2).den⟩
end Sb
namespace Sb
open PySem
structure Tel where
  name : Str
  st : Str
  en : Str
  a : Rat
  b : Rat
  tr : Int
  deriving DecidableEq
structure TelOk (ns : List Str) (t : Tel) : Prop where
  st : t.st ∈ ns
  en : t.en ∈ ns
  a0 : t.a ≠ 0
  qa : Qs 38 t.a
  qb : Qs 60 t.b
  t0 : 0 ≤ t.tr
  t1 : t.tr ≤ 10 ^ 12
  na : NearQ t.a
  nb : NearQ t.b
/-- .. also told the other way about -/
structure TelW (ns : List Str) (t : Tel) : Prop where
  st : t.st ∈ ns
  en : t.en ∈ ns
  a0 : t.a ≠ 0
  qa : Qs 40 t.a
  qb : Qs 100 t.b
  t0 : 0 ≤ t.tr
theorem TelOk.w {ns : List Str} {t : Tel} (o : TelOk ns t) : TelW ns t := ⟨o.st, o.en, o.a0, o.qa.mono (by decide), o.qb.mono (by decide), o.t0⟩
theorem mt_append {h : PH} {n : Nat} {l : List PV} {v : PV} (e : h[n]? = some (.lst l)) (hl : l.length < 1000000) : mtF .append (.ref n) [v] h = .ok .non (h.set n (.lst (l ++ [v]))) := by
  simp only [mtF, mtAppend, e]
  rw [if_pos (zal (by omega))]
theorem walk_ref {h : PH} {n : Nat} {l : List PV} (e : h[n]? = some (.lst l)) : walkF .seq [.ref n] h = some (l, [(n, l)]) := by simp only [walkF, walkSeq, e]
theorem zbh {h : PH} {n : Nat} {l : List PV} (e : h[n]? = some (.lst l)) : zbf [(n, l)] h := fun z hz => by
  rw [List.mem_singleton.mp hz]
  exact e
end Sb
namespace Sb
open PySem
def Tel.key (t : Tel) : Int × Str := (t.tr, t.name)
def leT (a b : Tel) : Bool := leTel a.key b.key
def ltT (a b : Tel) : Bool := !leT b a
def zay (ts : List Tel) : List Tel := ts.mergeSort leT
theorem sort_perm (ts : List Tel) : (zay ts).Perm ts := List.mergeSort_perm ..
theorem sort_pair (ts : List Tel) : (zay ts).Pairwise fun a b => leT a b = true := List.pairwise_mergeSort (fun a b c => leTel_trans a.key b.key c.key) (fun a b => leTel_total a.key b.key) ts
theorem sort_nd {ts : List Tel} (nd : (ts.map Tel.name).Nodup) : ((zay ts).map Tel.name).Nodup := ((sort_perm ts).map Tel.name).nodup_iff.mpr nd
end Sb
namespace Sb
open PySem
theorem perm_erase {α : Type} : ∀ {l : List α} {i : Nat} {x : α}, l[i]? = some x → (x :: l.eraseIdx i).Perm l
  | [], i, x, e => by simp at e
  | a :: r, 0, x, e => by
    simp at e
    subst e
    simp
  | a :: r, i + 1, x, e => by
    simp at e
    rw [List.eraseIdx_cons_succ]
    exact (List.Perm.swap a x _).trans ((perm_erase e).cons a)
theorem erase_map {α β : Type} {f : α → β} : ∀ (l : List α) (i : Nat), (l.map f).eraseIdx i = (l.eraseIdx i).map f
  | [], i => by simp
  | a :: r, 0 => by simp
  | a :: r, i + 1 => by simp [erase_map r i]
theorem Fr.seq {h h' : PH} {v : PV} {l : List PV} (f : Fr [] h h') (e : seqOf h v = Option.some l) : seqOf h' v = Option.some l := by
  cases v with
  | tup k => exact e
  | cl k => exact e
  | ref n =>
    simp only [seqOf] at e ⊢
    cases hn : h[n]? with
    | none => rw [hn] at e; cases e
    | some o =>
      rw [hn] at e
      rw [f.some (by simp) hn]
      exact e
  | _ => cases e
end Sb
namespace Sb
open PySem
abbrev Mv := Rat × Rat
def thn2 (p q : Mv) : Mv := (q.1 * p.1, q.1 * p.2 + q.2)
def bck (p : Mv) : Mv := (1 / p.1, (0 - p.2) / p.1)
def rel (P : Str → Mv) (x y : Str) : Mv := thn2 (bck (P x)) (P y)
def one2 : Mv := (1, 0)
theorem zbg (p q r : Mv) : thn2 (thn2 p q) r = thn2 p (thn2 q r) := by
  unfold thn2
  ext <;> simp <;> grind
theorem thn_one (p : Mv) : thn2 p one2 = p := by
  unfold thn2 one2
  ext <;> simp <;> grind
theorem one_thn (p : Mv) : thn2 one2 p = p := by
  unfold thn2 one2
  ext <;> simp <;> grind
theorem bck_thn {p : Mv} (h : p.1 ≠ 0) : thn2 (bck p) p = one2 := by
  unfold thn2 bck one2
  ext <;> simp <;> grind
theorem thn_bck {p : Mv} (h : p.1 ≠ 0) : thn2 p (bck p) = one2 := by
  unfold thn2 bck one2
  ext <;> simp <;> grind
theorem bck_ne {p : Mv} (h : p.1 ≠ 0) : (bck p).1 ≠ 0 := by
  unfold bck
  intro z
  have : p.1 * (1 / p.1) = 1 := by grind
  rw [show (1 : Rat) / p.1 = 0 from z] at this
  grind
theorem thn_ne {p q : Mv} (h : p.1 ≠ 0) (g : q.1 ≠ 0) : (thn2 p q).1 ≠ 0 := by
  unfold thn2
  intro z
  rcases Rat.mul_eq_zero.mp z with z | z
  · exact g z
  · exact h z
theorem bck_bck {p : Mv} (h : p.1 ≠ 0) : bck (bck p) = p := by
  have e : thn2 (bck (bck p)) (thn2 (bck p) p) = p := by rw [← zbg, bck_thn (bck_ne h), one_thn]
  rwa [bck_thn h, thn_one] at e
theorem bck_thn2 {p q : Mv} (h : p.1 ≠ 0) (g : q.1 ≠ 0) : bck (thn2 p q) = thn2 (bck q) (bck p) := by
  have e : thn2 (bck (thn2 p q)) (thn2 (thn2 p q) (thn2 (bck q) (bck p))) = thn2 (bck q) (bck p) := by rw [← zbg, bck_thn (thn_ne h g), one_thn]
  rw [zbg p q, ← zbg q, thn_bck g, one_thn, thn_bck h, thn_one] at e
  exact e
section
variable {P : Str → Mv}
theorem rel_self {x : Str} (h : (P x).1 ≠ 0) : rel P x x = one2 := bck_thn h
theorem rel_thn {x y z : Str} (h : (P y).1 ≠ 0) : thn2 (rel P x y) (rel P y z) = rel P x z := by
  unfold rel
  rw [zbg, ← zbg (P y), thn_bck h, one_thn]
theorem rel_bck {x y : Str} (hx : (P x).1 ≠ 0) (hy : (P y).1 ≠ 0) : bck (rel P x y) = rel P y x := by
  unfold rel
  rw [bck_thn2 (bck_ne hx) hy, bck_bck hx]
end
inductive Joined (ts : List Tel) : Str → Str → Prop
  | refl (x : Str) : Joined ts x x
  | step {x y : Str} {t : Tel} (m : t ∈ ts) (j : Joined ts x y) (e : y = t.st) : Joined ts x t.en
  | back {x y : Str} {t : Tel} (m : t ∈ ts) (j : Joined ts x y) (e : y = t.en) : Joined ts x t.st
theorem Joined.trans {ts : List Tel} {x y z : Str} (a : Joined ts x y) (b : Joined ts y z) : Joined ts x z := by
  induction b with
  | refl => exact a
  | step m _ e ih => exact .step m ih e
  | back m _ e ih => exact .back m ih e
theorem Joined.of {ts : List Tel} {t : Tel} (m : t ∈ ts) : Joined ts t.st t.en := .step m (.refl _) rfl
theorem Joined.of' {ts : List Tel} {t : Tel} (m : t ∈ ts) : Joined ts t.en t.st := .back m (.refl _) rfl
theorem Joined.symm {ts : List Tel} {x y : Str} (a : Joined ts x y) : Joined ts y x := by
  induction a with
  | refl => exact .refl _
  | step m _ e ih => subst e; exact (Joined.of' m).trans ih
  | back m _ e ih => subst e; exact (Joined.of m).trans ih
theorem Joined.mono {ts us : List Tel} (h : ∀ t ∈ ts, t ∈ us) {x y : Str} (a : Joined ts x y) : Joined us x y := by
  induction a with
  | refl => exact .refl _
  | step m _ e ih => exact .step (h _ m) ih e
  | back m _ e ih => exact .back (h _ m) ih e
/-- where every telling of ts has both ends joined in us -/
theorem Joined.into {ts us : List Tel} (h : ∀ t ∈ ts, Joined us t.st t.en) {x y : Str} (a : Joined ts x y) : Joined us x y := by
  induction a with
  | refl => exact .refl _
  | step m _ e ih => subst e; exact ih.trans (h _ m)
  | back m _ e ih => subst e; exact ih.trans (h _ m).symm
def reMark (mk : Str → Str) (near far : Str) : Str → Str := fun x => if mk x = far then near else mk x
def ties : (Str → Str) → List Tel → List Tel
  | _, [] => []
  | mk, t :: r => if mk t.st = mk t.en then ties mk r else t :: ties (reMark mk (mk t.st) (mk t.en)) r
def tieRows (ts : List Tel) : List Tel := ties id (zay ts)
theorem ties_sub : ∀ (l : List Tel) (mk : Str → Str), (ties mk l).Sublist l
  | [], _ => List.Sublist.slnil
  | t :: r, mk => by
    unfold ties
    split
    · exact (ties_sub r _).cons _
    · exact (ties_sub r _).cons_cons _
/-- a telling that P agrees with -/
def Agrees (P : Str → Mv) (t : Tel) : Prop := (t.a, t.b) = rel P t.st t.en
/-- marks tell what is joined -/
theorem ties_spec : ∀ (l : List Tel) (mk : Str → Str) (F : List Tel) (P : Str → Mv), (∀ x, (P x).1 ≠ 0) → (∀ t ∈ l, t.a ≠ 0) → (∀ x y, mk x = mk y → Joined F x y) → (∀ t ∈ F, mk t.st = mk t.en) → (∀ t ∈ F, Agrees P t) →
    ∃ P' : Str → Mv, (∀ x, (P' x).1 ≠ 0) ∧ (∀ t ∈ F ++ ties mk l, Agrees P' t) ∧ ∀ t ∈ l, Joined (F ++ ties mk l) t.st t.en
  | [], mk, F, P, hP, ha, hj, hm, hg => ⟨P, hP, by simpa [ties] using hg, by simp⟩
  | t :: r, mk, F, P, hP, ha, hj, hm, hg => by
    unfold ties
    by_cases e : mk t.st = mk t.en
    · rw [if_pos e]
      obtain ⟨P', h1, h2, h3⟩ := ties_spec r mk F P hP (fun u hu => ha u (List.mem_cons_of_mem _ hu)) hj hm hg
      refine ⟨P', h1, h2, fun u hu => ?_⟩
      rcases List.mem_cons.mp hu with rfl | hu
      · exact (hj _ _ e).mono fun v hv => List.mem_append_left _ hv
      · exact h3 u hu
    · rw [if_neg e]
      let G : Mv := thn2 (thn2 (P t.st) (t.a, t.b)) (bck (P t.en))
      let P1 : Str → Mv := fun x => if mk x = mk t.en then thn2 G (P x) else P x
      have a0 : t.a ≠ 0 := ha t (List.mem_cons_self ..)
      have G0 : G.1 ≠ 0 := thn_ne (thn_ne (hP _) a0) (bck_ne (hP _))
      have hP1 : ∀ x, (P1 x).1 ≠ 0 := fun x => by
        show (if mk x = mk t.en then thn2 G (P x) else P x).1 ≠ 0
        split
        · exact thn_ne G0 (hP x)
        · exact hP x
      have same : ∀ x y, mk x = mk y → rel P1 x y = rel P x y := fun x y exy => by
        show thn2 (bck (if mk x = mk t.en then thn2 G (P x) else P x)) (if mk y = mk t.en then thn2 G (P y) else P y) = _
        rw [← exy]
        split
        · rw [bck_thn2 G0 (hP x), zbg, ← zbg (bck G), bck_thn G0, one_thn]
          rfl
        · rfl
      have new : Agrees P1 t := by
        show (t.a, t.b) = thn2 (bck (if mk t.st = mk t.en then thn2 G (P t.st) else P t.st)) (if mk t.en = mk t.en then thn2 G (P t.en) else P t.en)
        rw [if_neg e, if_pos rfl]
        show _ = thn2 (bck (P t.st)) (thn2 (thn2 (thn2 (P t.st) (t.a, t.b)) (bck (P t.en))) (P t.en))
        rw [zbg _ (bck (P t.en)), bck_thn (hP _), thn_one, ← zbg, bck_thn (hP _), one_thn]
      have c1 : ∀ x y, reMark mk (mk t.st) (mk t.en) x = reMark mk (mk t.st) (mk t.en) y → Joined (F ++ [t]) x y := by
        intro x y exy
        have up : ∀ {x y}, mk x = mk y → Joined (F ++ [t]) x y := fun z => (hj _ _ z).mono fun v hv => List.mem_append_left _ hv
        have jt : Joined (F ++ [t]) t.st t.en := Joined.of (by simp)
        unfold reMark at exy
        split at exy
        · rename_i zx
          split at exy
          · rename_i zy
            exact up (zx.trans zy.symm)
          · exact ((up zx).trans jt.symm).trans (up exy)
        · split at exy
          · rename_i zy
            exact ((up exy).trans jt).trans (up zy.symm)
          · exact up exy
      have c2 : ∀ u ∈ F ++ [t], reMark mk (mk t.st) (mk t.en) u.st = reMark mk (mk t.st) (mk t.en) u.en := by
        intro u hu
        rcases List.mem_append.mp hu with z | z
        · unfold reMark
          rw [hm u z]
        · rw [List.mem_singleton.mp z]
          unfold reMark
          rw [if_neg e, if_pos rfl]
      have c3 : ∀ u ∈ F ++ [t], Agrees P1 u := by
        intro u hu
        rcases List.mem_append.mp hu with z | z
        · unfold Agrees
          rw [same _ _ (hm u z)]
          exact hg u z
        · rw [List.mem_singleton.mp z]
          exact new
      obtain ⟨P', h1, h2, h3⟩ := ties_spec r (reMark mk (mk t.st) (mk t.en)) (F ++ [t]) P1 hP1 (fun u hu => ha u (List.mem_cons_of_mem _ hu)) c1 c2 c3
      have ea : F ++ [t] ++ ties (reMark mk (mk t.st) (mk t.en)) r = F ++ t :: ties (reMark mk (mk t.st) (mk t.en)) r := by simp
      rw [ea] at h2 h3
      refine ⟨P', h1, h2, fun u hu => ?_⟩
      rcases List.mem_cons.mp hu with rfl | hu
      · exact Joined.of (by simp)
      · exact h3 u hu
/-- readings that all ties tell; every telling's ends are joined by ties -/
theorem tieRows_spec {ts : List Tel} (ha : ∀ t ∈ ts, t.a ≠ 0) : ∃ P : Str → Mv, (∀ x, (P x).1 ≠ 0) ∧ (∀ t ∈ tieRows ts, Agrees P t) ∧ ∀ t ∈ ts, Joined (tieRows ts) t.st t.en := by
  obtain ⟨P, h1, h2, h3⟩ := ties_spec (zay ts) id [] (fun _ => one2) (fun _ => by show (1 : Rat) ≠ 0; decide) (fun t ht => ha t ((sort_perm ts).mem_iff.mp ht)) (fun x y e => by
    rw [show x = y from e]
    exact .refl _) (by simp) (by simp)
  rw [List.nil_append] at h2 h3
  exact ⟨P, h1, h2, fun t ht => h3 t ((sort_perm ts).mem_iff.mpr ht)⟩
theorem tieRows_mem {ts : List Tel} {t : Tel} (h : t ∈ tieRows ts) : t ∈ ts := (sort_perm ts).mem_iff.mp ((ties_sub _ _).mem h)
end Sb
namespace Sb
open PySem
theorem valP_mem {l : List (L2.Key × PV)} {k : L2.Key} {v : PV} (e : valP l k = some v) : (k, v) ∈ l := by
  unfold valP at e
  obtain ⟨kv, h1, h2⟩ := Option.map_eq_some_iff.mp e
  have := List.find?_some h1
  have hk : kv.1 = k := of_decide_eq_true this
  have := List.mem_of_find?_eq_some h1
  rw [← hk, ← h2]
  exact this
theorem valP_none {l : List (L2.Key × PV)} {k : L2.Key} (e : valP l k = none) : k ∉ l.map (·.1) := by
  unfold valP at e
  rw [Option.map_eq_none_iff, List.find?_eq_none] at e
  intro h
  obtain ⟨kv, h1, h2⟩ := List.mem_map.mp h
  exact e kv h1 (decide_eq_true h2)
theorem any_none {l : List (L2.Key × PV)} {k : L2.Key} (e : k ∉ l.map (·.1)) : ¬ (l.any fun kv => decide (kv.1 = k)) = true := fun h => by
  obtain ⟨kv, h1, h2⟩ := List.any_eq_true.mp h
  exact e (List.mem_map.mpr ⟨kv, h1, of_decide_eq_true h2⟩)
theorem put_new {l : List (L2.Key × PV)} {k : L2.Key} {v : PV} (e : k ∉ l.map (·.1)) : putP l k v = l ++ [(k, v)] := by
  unfold putP
  rw [if_neg (any_none e)]
structure MkOk (l : List (L2.Key × PV)) (mk : Str → Str) : Prop where
  nd : (l.map (·.1)).Nodup
  st : ∀ kv ∈ l, ∃ y, kv.2 = .str y
  at_ : ∀ x, valP l (.inr x) = some (.str (mk x)) ∨ (valP l (.inr x) = none ∧ mk x = x)
  pr : ∀ x, valP l (.inr x) ≠ none → valP l (.inr (mk x)) ≠ none
theorem MkOk.setd {l : List (L2.Key × PV)} {mk : Str → Str} {x : Str} (m : MkOk l mk) (e : valP l (.inr x) = none) : MkOk (putP l (.inr x) (.str x)) mk := by
  have ex : mk x = x := by
    rcases m.at_ x with z | z
    · rw [e] at z
      cases z
    · exact z.2
  have np := valP_none e
  refine ⟨?_, fun kv h => ?_, fun y => ?_, fun y hy => ?_⟩
  · rw [put_new np, List.map_append, List.nodup_append]
    refine ⟨m.nd, by simp, fun a ha b hb z => np ?_⟩
    simp at hb
    rw [← hb, ← z]
    exact ha
  · rw [put_new np] at h
    rcases List.mem_append.mp h with z | z
    · exact m.st kv z
    · rw [List.mem_singleton.mp z]
      exact ⟨x, rfl⟩
  · rw [val_put]
    by_cases z : y = x
    · subst z
      rw [if_pos rfl, ex]
      exact .inl rfl
    · rw [if_neg (by simpa using z)]
      exact m.at_ y
  · rw [val_put] at hy ⊢
    by_cases z : y = x
    · subst z
      rw [ex, if_pos rfl]
      simp
    · rw [if_neg (by simpa using z)] at hy
      split
      · simp
      · exact m.pr y hy
section
variable {C : Calls} {t : Bool} {ρ : Env} {h : PH}
@[simp] theorem g_remark (d a b : Nat) : evG C (.remark d a b) t ρ h = fin t (remarkP (ρ.get d) (ρ.get a) (ρ.get b) h) := by rfl
@[simp] theorem g_firsts (j : Nat) : evG C (.firsts j) t ρ h = fin t (firstsP (ρ.get j) h) := by rfl
end
end Sb
namespace Sb
open PySem
abbrev Step := Str × Bool
def stPV (s : Step) : PV := .tup [.str s.1, .bl s.2]
def stepOf (x : Str) (t : Tel) : List (Step × Str) := (if t.st = x then [((t.name, true), t.en)] else []) ++ (if t.en = x then [((t.name, false), t.st)] else [])
def stepsOf (rows : List Tel) (x : Str) : List (Step × Str) := rows.flatMap (stepOf x)
theorem steps_mem {rows : List Tel} {x : Str} {p : Step × Str} (h : p ∈ stepsOf rows x) : ∃ t ∈ rows, (p = ((t.name, true), t.en) ∧ t.st = x) ∨ (p = ((t.name, false), t.st) ∧ t.en = x) := by
  obtain ⟨t, ht, hp⟩ := List.mem_flatMap.mp h
  refine ⟨t, ht, ?_⟩
  unfold stepOf at hp
  rcases List.mem_append.mp hp with z | z
  · split at z
    · rename_i e
      exact .inl ⟨by simpa using z, e⟩
    · simp at z
  · split at z
    · rename_i e
      exact .inr ⟨by simpa using z, e⟩
    · simp at z
theorem steps_forth {rows : List Tel} {t : Tel} (h : t ∈ rows) : ((t.name, true), t.en) ∈ stepsOf rows t.st := List.mem_flatMap.mpr ⟨t, h, by simp [stepOf]⟩
theorem steps_back {rows : List Tel} {t : Tel} (h : t ∈ rows) : ((t.name, false), t.st) ∈ stepsOf rows t.en := List.mem_flatMap.mpr ⟨t, h, by simp [stepOf]⟩
/-- a walk -/
inductive Walk (rows : List Tel) (s : Str) : List Step → Str → Prop
  | nil : Walk rows s [] s
  | snoc {c : List Step} {x : Str} {p : Step × Str} (w : Walk rows s c x) (m : p ∈ stepsOf rows x) : Walk rows s (c ++ [p.1]) p.2
/-- a walk that comes to no scale twice: vs the scales that it comes to -/
inductive Path (rows : List Tel) (s : Str) : List Str → List Step → Str → Prop
  | nil : Path rows s [s] [] s
  | snoc {vs : List Str} {c : List Step} {x : Str} {p : Step × Str} (w : Path rows s vs c x) (m : p ∈ stepsOf rows x) (n : p.2 ∉ vs) : Path rows s (vs ++ [p.2]) (c ++ [p.1]) p.2
end Sb
namespace Sb
open PySem
theorem nodup_len {α : Type} [DecidableEq α] : ∀ {A B : List α}, A.Nodup → (∀ x ∈ A, x ∈ B) → A.length ≤ B.length
  | [], _, _, _ => Nat.zero_le _
  | a :: A, B, nd, h => by
    obtain ⟨n1, n2⟩ := List.nodup_cons.mp nd
    have ha := h a (List.mem_cons_self ..)
    have := nodup_len (A := A) (B := B.erase a) n2 fun x hx => (List.mem_erase_of_ne (fun z => n1 (by rw [← z]; exact hx))).mpr (h x (List.mem_cons_of_mem _ hx))
    rw [List.length_erase_of_mem ha] at this
    have : 0 < B.length := List.length_pos_of_mem ha
    rw [List.length_cons]
    omega
def ends (rows : List Tel) : List Str := rows.flatMap fun t => [t.st, t.en]
theorem ends_len : ∀ rows : List Tel, (ends rows).length = 2 * rows.length
  | [] => rfl
  | t :: r => by
    have : ends (t :: r) = t.st :: t.en :: ends r := by simp [ends]
    rw [this, List.length_cons, List.length_cons, ends_len r, List.length_cons]
    omega
theorem steps_ends {rows : List Tel} {x : Str} {p : Step × Str} (h : p ∈ stepsOf rows x) : p.2 ∈ ends rows := by
  obtain ⟨t, ht, ⟨rfl, _⟩ | ⟨rfl, _⟩⟩ := steps_mem h
  · exact List.mem_flatMap.mpr ⟨t, ht, by simp⟩
  · exact List.mem_flatMap.mpr ⟨t, ht, by simp⟩
/-- a path whose scales are among the keys -/
def Pth (rows : List Tel) (s : Str) (l : List (L2.Key × PV)) (ch : List Step) (x : Str) : Prop := ∃ vs, Path rows s vs ch x ∧ ∀ v ∈ vs, valP l (.inr v) ≠ none
theorem Pth.up {rows : List Tel} {s x y : Str} {l : List (L2.Key × PV)} {v : PV} {ch : List Step} (w : Pth rows s l ch x) : Pth rows s (putP l (.inr y) v) ch x := by
  obtain ⟨vs, w1, w2⟩ := w
  refine ⟨vs, w1, fun z hz => ?_⟩
  rw [val_put]
  split
  · simp
  · exact w2 z hz
theorem Pth.snoc {rows : List Tel} {s x : Str} {l : List (L2.Key × PV)} {v : PV} {ch : List Step} (w : Pth rows s l ch x) {p : Step × Str} (m : p ∈ stepsOf rows x) (n : valP l (.inr p.2) = none) : Pth rows s (putP l (.inr p.2) v) (ch ++ [p.1]) p.2 := by
  obtain ⟨vs, w1, w2⟩ := w
  refine ⟨vs ++ [p.2], w1.snoc m fun hp => w2 _ hp n, fun z hz => ?_⟩
  rw [val_put]
  split
  · simp
  · rename_i hne
    rcases List.mem_append.mp hz with q | q
    · exact w2 z q
    · rw [List.mem_singleton.mp q] at hne
      exact absurd rfl hne
/-- the roads found so far -/
structure RdOk (rows : List Tel) (s : Str) (h : PH) (lo d w : Nat) (l : List (L2.Key × PV)) : Prop where
  nd : (l.map (·.1)).Nodup
  ky : ∀ kv ∈ l, ∃ x m ch, kv = (.inr x, .ref m) ∧ h[m]? = some (.lst (ch.map stPV)) ∧ Pth rows s l ch x ∧ ch.length < l.length ∧ lo ≤ m ∧ m ≠ d ∧ m ≠ w ∧ (x = s ∨ x ∈ ends rows)
theorem RdOk.len {rows : List Tel} {s : Str} {h : PH} {lo d w : Nat} {l : List (L2.Key × PV)} (r : RdOk rows s h lo d w l) : l.length ≤ 2 * rows.length + 1 := by
  have := nodup_len (A := l.map (·.1)) (B := (s :: ends rows).map Sum.inr) r.nd fun k hk => by
    obtain ⟨kv, h1, rfl⟩ := List.mem_map.mp hk
    obtain ⟨x, m, ch, rfl, _, _, _, _, _, _, hx⟩ := r.ky kv h1
    exact List.mem_map.mpr ⟨x, by simpa using hx, rfl⟩
  rw [List.length_map, List.length_map, List.length_cons, ends_len] at this
  exact this
theorem RdOk.frame {rows : List Tel} {s : Str} {h h' : PH} {lo d w : Nat} {l : List (L2.Key × PV)} (r : RdOk rows s h lo d w l) (f : ∀ m, m ≠ d → m ≠ w → ∀ o, h[m]? = some o → h'[m]? = some o) : RdOk rows s h' lo d w l := ⟨r.nd, fun kv hk => by
  obtain ⟨x, m, ch, e, h1, h2, h3, h4, h5, h6, h7⟩ := r.ky kv hk
  exact ⟨x, m, ch, e, f m h5 h6 _ h1, h2, h3, h4, h5, h6, h7⟩⟩
theorem RdOk.get {rows : List Tel} {s : Str} {h : PH} {lo d w : Nat} {l : List (L2.Key × PV)} (r : RdOk rows s h lo d w l) {x : Str} {v : PV} (e : valP l (.inr x) = some v) : ∃ m ch, v = .ref m ∧ h[m]? = some (.lst (ch.map stPV)) ∧ Pth rows s l ch x ∧ ch.length < l.length ∧ m ≠ d ∧ m ≠ w := by
  obtain ⟨y, m, ch, e1, h1, h2, h3, h4, h5, h6, _⟩ := r.ky _ (valP_mem e)
  cases e1
  exact ⟨m, ch, rfl, h1, h2, h3, h5, h6⟩
theorem RdOk.add {rows : List Tel} {s : Str} {h : PH} {lo d w m : Nat} {l : List (L2.Key × PV)} {y : Str} {ch : List Step} (r : RdOk rows s h lo d w l) (n : valP l (.inr y) = none) (e : h[m]? = some (.lst (ch.map stPV))) (wk : Pth rows s (putP l (.inr y) (.ref m)) ch y) (hc : ch.length ≤ l.length) (h1 : lo ≤ m) (h2 : m ≠ d) (h3 : m ≠ w) (hy : y ∈ ends rows) : RdOk rows s h lo d w (putP l (.inr y) (.ref m)) := by
  have np := valP_none n
  have pu : ∀ {x ch}, Pth rows s l ch x → Pth rows s (l ++ [(.inr y, .ref m)]) ch x := fun {x ch} w => by
    have := w.up (y := y) (v := .ref m)
    rwa [put_new np] at this
  rw [put_new np] at wk ⊢
  refine ⟨?_, fun kv hk => ?_⟩
  · rw [List.map_append, List.nodup_append]
    refine ⟨r.nd, by simp, fun a ha b hb z => np ?_⟩
    simp at hb
    rw [← hb, ← z]
    exact ha
  · rcases List.mem_append.mp hk with z | z
    · obtain ⟨x, m, ch, e, h1, h2, h3, h4⟩ := r.ky kv z
      exact ⟨x, m, ch, e, h1, pu h2, by simp; omega, h4⟩
    · rw [List.mem_singleton.mp z]
      exact ⟨y, m, ch, rfl, e, wk, by simp; omega, h1, h2, h3, .inr hy⟩
theorem b_addL {h : PH} {m n : Nat} {l k : List PV} (e1 : h[m]? = some (.lst l)) (e2 : h[n]? = some (.lst k)) (hl : l.length + k.length ≤ 1000000) : binop .Add (.ref m) (.ref n) h = .ok (.ref h.length) (h ++ [.lst (l ++ k)]) := by
  simp only [binop, e1, e2]
  rw [if_pos (zal hl), zap _ (by rw [List.length_append]; exact hl)]
end Sb
namespace Sb
open PySem
theorem Walk.pre {rows : List Tel} {s x : Str} {c : List Step} (w : Walk rows s c x) : ∀ i, i ≤ c.length → ∃ y, Walk rows s (c.take i) y := by
  induction w with
  | nil => exact fun i _ => ⟨s, by simpa using Walk.nil⟩
  | @snoc c x p w m ih =>
    intro i hi
    rw [List.length_append] at hi
    simp at hi
    by_cases h : i ≤ c.length
    · obtain ⟨y, hy⟩ := ih i h
      refine ⟨y, ?_⟩
      rw [List.take_append_of_le_length h]
      exact hy
    · have : i = (c ++ [p.1]).length := by simp; omega
      rw [this, List.take_length]
      exact ⟨p.2, w.snoc m⟩
/-- what is asked of rows and readings -/
structure Rows (ts rows : List Tel) (P : Str → Mv) : Prop where
  nd : (ts.map Tel.name).Nodup
  sub : ∀ t ∈ rows, t ∈ ts
  p0 : ∀ x, (P x).1 ≠ 0
  ag : ∀ t ∈ rows, Agrees P t
  qa : ∀ t ∈ ts, t.a ≠ 0 ∧ Qs 40 t.a ∧ Qs 100 t.b
end Sb
namespace Sb
open PySem
/-- tellings over scales -/
structure Bk (ns : List Str) (ts : List Tel) : Prop where
  nd : (ts.map Tel.name).Nodup
  ok : ∀ t ∈ ts, TelW ns t
  len : ts.length ≤ 1000
  nl : ns.length ≤ 26
/-- the defs of the forest -/
structure TF (tbl : Nat → Fn) : Prop where
  h32 : tbl 32 = F_in_order
  h39 : tbl 39 = F_tie_rows
  h40 : tbl 40 = F_steps_from
  h41 : tbl 41 = F_roads_among
  h42 : tbl 42 = F_road_among
  h43 : tbl 43 = F_road_of
  h44 : tbl 44 = F_chain_move
  h45 : tbl 45 = F_move_of
/-- .. those of roads alone -/
structure TR (tbl : Nat → Fn) : Prop where
  h32 : tbl 32 = F_in_order
  h39 : tbl 39 = F_tie_rows
  h40 : tbl 40 = F_steps_from
  h41 : tbl 41 = F_roads_among
  h42 : tbl 42 = F_road_among
  h43 : tbl 43 = F_road_of
theorem TF.tr {tbl : Nat → Fn} (f : TF tbl) : TR tbl := ⟨f.h32, f.h39, f.h40, f.h41, f.h42, f.h43⟩
theorem Bk.ends {ns : List Str} {ts rows : List Tel} (b : Bk ns ts) (sub : ∀ t ∈ rows, t ∈ ts) : ∀ x ∈ ends rows, x ∈ ns := fun x hx => by
  obtain ⟨t, ht, hm⟩ := List.mem_flatMap.mp hx
  simp at hm
  rcases hm with rfl | rfl
  · exact (b.ok t (sub t ht)).st
  · exact (b.ok t (sub t ht)).en
theorem Bk.rows {ns : List Str} {ts : List Tel} (b : Bk ns ts) : ∃ P, Rows ts (tieRows ts) P ∧ ∀ t ∈ ts, Joined (tieRows ts) t.st t.en := by
  obtain ⟨P, h1, h2, h3⟩ := tieRows_spec fun t ht => (b.ok t ht).a0
  exact ⟨P, ⟨b.nd, fun t => tieRows_mem, h1, h2, fun t ht => ⟨(b.ok t ht).a0, (b.ok t ht).qa, (b.ok t ht).qb⟩⟩, h3⟩
end Sb
namespace Sb
open PySem
theorem tel_uniq {ts : List Tel} (nd : (ts.map Tel.name).Nodup) {u v : Tel} (hu : u ∈ ts) (hv : v ∈ ts) (en : v.name = u.name) : v = u := by
  obtain ⟨a1, b1⟩ := mem_get hv
  obtain ⟨a2, b2⟩ := mem_get hu
  have e1 : (ts.map Tel.name)[a1]? = some v.name := by rw [List.getElem?_map, b1]; rfl
  have e2 : (ts.map Tel.name)[a2]? = some u.name := by rw [List.getElem?_map, b2]; rfl
  have := (List.getElem?_inj (j := a2) (List.getElem?_eq_some_iff.mp e1).1 nd).mp (by rw [e1, e2, en])
  subst this
  rw [b1] at b2
  exact Option.some.inj b2
end Sb
namespace Sb
open PySem
theorem joined_snoc {F : List Tel} {t : Tel} {x y : Str} (j : Joined (F ++ [t]) x y) : Joined F x y ∨ (Joined F x t.st ∧ Joined F t.en y) ∨ (Joined F x t.en ∧ Joined F t.st y) := by
  induction j with
  | refl => exact .inl (.refl _)
  | @step y u m j e ih =>
    rcases List.mem_append.mp m with hm | hm
    · rcases ih with a | ⟨a, b⟩ | ⟨a, b⟩
      · exact .inl (.step hm a e)
      · exact .inr (.inl ⟨a, .step hm b e⟩)
      · exact .inr (.inr ⟨a, .step hm b e⟩)
    · have hu := List.mem_singleton.mp hm
      subst hu
      subst e
      rcases ih with a | ⟨a, b⟩ | ⟨a, b⟩
      · exact .inr (.inl ⟨a, .refl _⟩)
      · exact .inl (a.trans b.symm)
      · exact .inl a
  | @back y u m j e ih =>
    rcases List.mem_append.mp m with hm | hm
    · rcases ih with a | ⟨a, b⟩ | ⟨a, b⟩
      · exact .inl (.back hm a e)
      · exact .inr (.inl ⟨a, .back hm b e⟩)
      · exact .inr (.inr ⟨a, .back hm b e⟩)
    · have hu := List.mem_singleton.mp hm
      subst hu
      subst e
      rcases ih with a | ⟨a, b⟩ | ⟨a, b⟩
      · exact .inr (.inr ⟨a, .refl _⟩)
      · exact .inl a
      · exact .inl (a.trans b.symm)
theorem joined_snoc_iff {F : List Tel} {t : Tel} {x y : Str} : Joined (F ++ [t]) x y ↔ Joined F x y ∨ (Joined F x t.st ∧ Joined F t.en y) ∨ (Joined F x t.en ∧ Joined F t.st y) := by
  refine ⟨joined_snoc, fun q => ?_⟩
  have up : ∀ {x y}, Joined F x y → Joined (F ++ [t]) x y := fun j => j.mono fun u hu => List.mem_append_left _ hu
  have jt : Joined (F ++ [t]) t.st t.en := Joined.of (by simp)
  rcases q with a | ⟨a, b⟩ | ⟨a, b⟩
  · exact up a
  · exact ((up a).trans jt).trans (up b)
  · exact ((up a).trans jt.symm).trans (up b)
theorem joined_congr {F G : List Tel} (h : ∀ t, t ∈ F ↔ t ∈ G) {x y : Str} : Joined F x y ↔ Joined G x y := ⟨fun j => j.mono fun t => (h t).mp, fun j => j.mono fun t => (h t).mpr⟩
theorem joined_skip {F : List Tel} {t : Tel} (h : Joined F t.st t.en) {x y : Str} : Joined (F ++ [t]) x y ↔ Joined F x y := ⟨fun j => j.into fun u hu => by
  rcases List.mem_append.mp hu with z | z
  · exact .of z
  · rw [List.mem_singleton.mp z]
    exact h, fun j => j.mono fun u hu => List.mem_append_left _ hu⟩
theorem ltT_irr (t : Tel) : ltT t t = false := by
  have := leTel_total t.key t.key
  simp at this
  simp [ltT, leT, this]
theorem lt_not {u t : Tel} (h : leT t u = true) : ltT u t = false := by simp [ltT, h]
theorem lt_of_le {u t : Tel} (h : leT u t = true) (n : u.name ≠ t.name) : ltT u t = true := by
  unfold ltT
  cases h2 : leT t u with
  | false => rfl
  | true => exact absurd (congrArg Prod.snd (leTel_anti h h2)) n
theorem le_of_lt {u t : Tel} (h : ltT u t = true) : leT u t = true := by
  have := leTel_total u.key t.key
  unfold ltT at h
  unfold leT at h ⊢
  cases h2 : leTel u.key t.key with
  | true => rfl
  | false =>
    rw [h2] at this
    simp at this
    rw [this] at h
    cases h
/-- those ahead of one -/
def ahead (ts : List Tel) (t : Tel) : List Tel := ts.filter fun u => ltT u t
theorem mem_ahead {ts : List Tel} {t u : Tel} : u ∈ ahead ts t ↔ u ∈ ts ∧ ltT u t = true := List.mem_filter
/-- it joins two groups -/
def IsTie (ts : List Tel) (t : Tel) : Prop := ¬ Joined (ahead ts t) t.st t.en
theorem pre_ahead {ts A C : List Tel} {t : Tel} (nd : (ts.map Tel.name).Nodup) (es : zay ts = A ++ t :: C) : ∀ u, u ∈ A ↔ u ∈ ahead ts t := by
  intro u
  have o := sort_pair ts
  have nd' := sort_nd nd
  have sm : u ∈ ts ↔ u ∈ A ++ t :: C := by rw [← es]; exact (sort_perm ts).mem_iff.symm
  rw [es] at o nd'
  rw [List.pairwise_append] at o
  obtain ⟨_, o2, o3⟩ := o
  rw [List.pairwise_cons] at o2
  rw [List.map_append, List.nodup_append] at nd'
  rw [mem_ahead, sm]
  constructor
  · intro hu
    refine ⟨List.mem_append_left _ hu, lt_of_le (o3 u hu t (List.mem_cons_self ..)) ?_⟩
    exact nd'.2.2 _ (List.mem_map.mpr ⟨u, hu, rfl⟩) _ (List.mem_map.mpr ⟨t, List.mem_cons_self .., rfl⟩)
  · rintro ⟨hm, hl⟩
    rcases List.mem_append.mp hm with z | z
    · exact z
    · rcases List.mem_cons.mp z with rfl | z
      · rw [ltT_irr] at hl
        cases hl
      · rw [lt_not (o2.1 u z)] at hl
        cases hl
open Classical in
/-- the ties of a list, those of pre being ahead -/
noncomputable def tiesJ : List Tel → List Tel → List Tel
  | _, [] => []
  | pre, t :: r => if Joined pre t.st t.en then tiesJ (pre ++ [t]) r else t :: tiesJ (pre ++ [t]) r
theorem ties_J : ∀ (l : List Tel) (mk : Str → Str) (pre : List Tel), (∀ x y, mk x = mk y ↔ Joined pre x y) → ties mk l = tiesJ pre l
  | [], _, _, _ => rfl
  | t :: r, mk, pre, hj => by
    unfold ties tiesJ
    by_cases e : mk t.st = mk t.en
    · have j := (hj _ _).mp e
      rw [if_pos e, if_pos j]
      exact ties_J r mk _ fun x y => (hj x y).trans (joined_skip j).symm
    · have j : ¬ Joined pre t.st t.en := fun z => e ((hj _ _).mpr z)
      rw [if_neg e, if_neg j]
      congr 1
      refine ties_J r _ _ fun x y => ?_
      rw [joined_snoc_iff, ← hj, ← hj, ← hj, ← hj, ← hj]
      unfold reMark
      by_cases hx : mk x = mk t.en
      · rw [if_pos hx]
        by_cases hy : mk y = mk t.en
        · rw [if_pos hy]
          exact ⟨fun _ => .inl (hx.trans hy.symm), fun _ => rfl⟩
        · rw [if_neg hy]
          constructor
          · intro z
            exact .inr (.inr ⟨hx, z⟩)
          · rintro (z | ⟨_, z⟩ | ⟨_, z⟩)
            · exact absurd (z.symm.trans hx) hy
            · exact absurd z.symm hy
            · exact z
      · rw [if_neg hx]
        by_cases hy : mk y = mk t.en
        · rw [if_pos hy]
          constructor
          · intro z
            exact .inr (.inl ⟨z, hy.symm⟩)
          · rintro (z | ⟨z, _⟩ | ⟨z, _⟩)
            · exact absurd (z.trans hy) hx
            · exact z
            · exact absurd z hx
        · rw [if_neg hy]
          constructor
          · intro z
            exact .inl z
          · rintro (z | ⟨_, z⟩ | ⟨z, _⟩)
            · exact z
            · exact absurd z.symm hy
            · exact absurd z hx
open Classical in
theorem tiesJ_filter {ts : List Tel} (nd : (ts.map Tel.name).Nodup) : ∀ (l pre : List Tel), zay ts = pre ++ l → tiesJ pre l = l.filter fun t => decide (IsTie ts t)
  | [], _, _ => rfl
  | t :: r, pre, es => by
    have ih := tiesJ_filter nd r (pre ++ [t]) (by rw [es]; simp)
    unfold tiesJ
    have jc : Joined pre t.st t.en ↔ Joined (ahead ts t) t.st t.en := joined_congr (pre_ahead nd es)
    by_cases j : Joined pre t.st t.en
    · rw [if_pos j, ih, List.filter_cons_of_neg]
      rw [decide_eq_true_eq]
      exact fun z => z (jc.mp j)
    · rw [if_neg j, ih, List.filter_cons_of_pos]
      rw [decide_eq_true_eq]
      exact fun z => j (jc.mpr z)
theorem joined_nil {x y : Str} (j : Joined [] x y) : x = y := by
  induction j with
  | refl => rfl
  | step m => cases m
  | back m => cases m
open Classical in
theorem tieRows_eq {ts : List Tel} (nd : (ts.map Tel.name).Nodup) : tieRows ts = (zay ts).filter fun t => decide (IsTie ts t) := by
  unfold tieRows
  rw [ties_J (zay ts) id [] fun x y => ⟨fun e => by rw [show x = y from e]; exact .refl _, joined_nil⟩]
  exact tiesJ_filter nd _ _ rfl
theorem mem_ties {ts : List Tel} (nd : (ts.map Tel.name).Nodup) {t : Tel} : t ∈ tieRows ts ↔ t ∈ ts ∧ IsTie ts t := by
  rw [tieRows_eq nd, List.mem_filter, (sort_perm ts).mem_iff]
  simp
theorem Path.vmem {rows : List Tel} {s x : Str} {vs : List Str} {c : List Step} (w : Path rows s vs c x) : x ∈ vs ∧ s ∈ vs := by
  induction w with
  | nil => simp
  | snoc w m n ih => exact ⟨by simp, List.mem_append_left _ ih.2⟩
/-- these tellings, if they agree, tell of x and y this move -/
def Says (F : List Tel) (x y : Str) (m : Mv) : Prop := Joined F x y ∧ ∀ P : Str → Mv, (∀ z, (P z).1 ≠ 0) → (∀ t ∈ F, Agrees P t) → rel P x y = m
theorem Says.mono {F G : List Tel} (h : ∀ t ∈ F, t ∈ G) {x y : Str} {m : Mv} (s : Says F x y m) : Says G x y m := ⟨s.1.mono h, fun P p0 pa => s.2 P p0 fun t ht => pa t (h t ht)⟩
end Sb
namespace Sb
open PySem
theorem Path.nodup {rows : List Tel} {s x : Str} {vs : List Str} {c : List Step} (w : Path rows s vs c x) : vs.Nodup ∧ vs.length = c.length + 1 := by
  induction w with
  | nil => simp
  | snoc w m n ih =>
    refine ⟨?_, by simp [ih.2]⟩
    rw [List.nodup_append]
    refine ⟨ih.1, by simp, fun a ha b hb z => n ?_⟩
    rw [← List.mem_singleton.mp hb, ← z]
    exact ha
theorem Path.among {rows : List Tel} {s x : Str} {vs : List Str} {c : List Step} (w : Path rows s vs c x) : ∀ v ∈ vs, v = s ∨ v ∈ ends rows := by
  induction w with
  | nil => simp
  | snoc w m n ih =>
    intro v hv
    rcases List.mem_append.mp hv with z | z
    · exact ih v z
    · rw [List.mem_singleton.mp z]
      exact .inr (steps_ends m)
theorem Path.pre {rows : List Tel} {s x : Str} {vs : List Str} {c : List Step} (w : Path rows s vs c x) : ∀ v ∈ vs, ∃ vs' c', Path rows s vs' c' v := by
  induction w with
  | nil =>
    intro v hv
    rw [List.mem_singleton.mp hv]
    exact ⟨_, _, .nil⟩
  | snoc w m n ih =>
    intro v hv
    rcases List.mem_append.mp hv with z | z
    · exact ih v z
    · rw [List.mem_singleton.mp z]
      exact ⟨_, _, w.snoc m n⟩
theorem Joined.path {rows : List Tel} {s x : Str} (j : Joined rows s x) : ∃ vs c, Path rows s vs c x := by
  have add : ∀ {y : Str} {p : Step × Str}, (∃ vs c, Path rows s vs c y) → p ∈ stepsOf rows y → ∃ vs c, Path rows s vs c p.2 := by
    rintro y p ⟨vs, c, w⟩ m
    by_cases h : p.2 ∈ vs
    · exact w.pre _ h
    · exact ⟨_, _, w.snoc m h⟩
  induction j with
  | refl => exact ⟨_, _, .nil⟩
  | @step y t m j e ih => exact add ih (p := ((t.name, true), t.en)) (by rw [e]; exact steps_forth m)
  | @back y t m j e ih => exact add ih (p := ((t.name, false), t.st)) (by rw [e]; exact steps_back m)
theorem Path.short {rows : List Tel} {s x : Str} {vs : List Str} {c : List Step} (w : Path rows s vs c x) {ns : List Str} (hs : s ∈ ns) (he : ∀ x ∈ ends rows, x ∈ ns) : c.length < ns.length := by
  have := nodup_len (A := vs) (B := ns) w.nodup.1 fun v hv => (w.among v hv).elim (fun z => by rw [z]; exact hs) (he v)
  have := w.nodup.2
  omega
/-- how great the numbers of a path's move are -/
theorem Path.size {rows : List Tel} {s x : Str} {vs : List Str} {c : List Step} (w : Path rows s vs c x) {P : Str → Mv} (p0 : ∀ z, (P z).1 ≠ 0) (pa : ∀ t ∈ rows, Agrees P t) (qa : ∀ t ∈ rows, t.a ≠ 0 ∧ Qs 40 t.a ∧ Qs 100 t.b) : Qs (1 + 61 * c.length) (rel P s x).1 ∧ Qs (1 + 184 * c.length) (rel P s x).2 := by
  induction w with
  | nil =>
    rw [rel_self (p0 s)]
    exact ⟨q1, q0⟩
  | @snoc vs c y p w m n ih =>
    rw [← rel_thn (y := y) (p0 y)]
    have key : ∀ cd : Mv, Qs 41 cd.1 → Qs 142 cd.2 → Qs (1 + 61 * (c ++ [p.1]).length) (thn2 (rel P s y) cd).1 ∧ Qs (1 + 184 * (c ++ [p.1]).length) (thn2 (rel P s y) cd).2 := fun cd h1 h2 => by
      have l : (c ++ [p.1]).length = c.length + 1 := by simp
      rw [l]
      exact ⟨(h1.mul ih.1).mono (by omega), ((h1.mul ih.2).add h2).mono (by omega)⟩
    obtain ⟨t, ht, ⟨rfl, hx⟩ | ⟨rfl, hx⟩⟩ := steps_mem m
    · have := pa t ht
      unfold Agrees at this
      subst hx
      rw [← this]
      exact key (t.a, t.b) ((qa t ht).2.1.mono (by decide)) ((qa t ht).2.2.mono (by decide))
    · have := pa t ht
      unfold Agrees at this
      subst hx
      rw [← rel_bck (p0 t.st) (p0 t.en), ← this]
      have ua := qa t ht
      exact key (bck (t.a, t.b)) ((q1.div ua.2.1 (num_ne ua.1)).mono (by decide)) (((q0.sub ua.2.2).div ua.2.1 (num_ne ua.1)).mono (by decide))
structure MD (ns : List Str) (l : List (L2.Key × PV)) (f : Str → PV) (seen : Str → Prop) : Prop where
  nd : (l.map (·.1)).Nodup
  at_ : ∀ x, seen x → valP l (.inr x) = some (f x)
  no : ∀ x, ¬ seen x → valP l (.inr x) = none
  ky : ∀ kv ∈ l, ∃ x ∈ ns, kv.1 = .inr x
theorem MD.len {ns : List Str} {l : List (L2.Key × PV)} {f : Str → PV} {seen : Str → Prop} (m : MD ns l f seen) : l.length ≤ ns.length := by
  have := nodup_len (A := l.map (·.1)) (B := ns.map Sum.inr) m.nd fun k hk => by
    obtain ⟨kv, h1, rfl⟩ := List.mem_map.mp hk
    obtain ⟨x, hx, e⟩ := m.ky kv h1
    rw [e]
    exact List.mem_map.mpr ⟨x, hx, rfl⟩
  rwa [List.length_map, List.length_map] at this
open Classical in
theorem put_keys {l : List (L2.Key × PV)} {k : L2.Key} {v : PV} : (putP l k v).map (·.1) = if k ∈ l.map (·.1) then l.map (·.1) else l.map (·.1) ++ [k] := by
  by_cases h : k ∈ l.map (·.1)
  · rw [if_pos h]
    unfold putP
    rw [if_pos (by obtain ⟨kv, h1, h2⟩ := List.mem_map.mp h; exact List.any_eq_true.mpr ⟨kv, h1, by simpa using h2⟩), List.map_map]
    refine List.map_congr_left fun kv _ => ?_
    simp only [Function.comp_apply]
    split <;> rfl
  · rw [if_neg h, put_new h]
    simp
theorem MD.put {ns : List Str} {l : List (L2.Key × PV)} {f : Str → PV} {seen : Str → Prop} (m : MD ns l f seen) {x : Str} (hx : x ∈ ns) (v : PV) : MD ns (putP l (.inr x) v) (fun y => if y = x then v else f y) fun y => seen y ∨ y = x := by
  refine ⟨?_, fun y hy => ?_, fun y hy => ?_, fun kv hk => ?_⟩
  · rw [put_keys]
    split
    · exact m.nd
    · rename_i h
      rw [List.nodup_append]
      refine ⟨m.nd, by simp, fun a ha b hb z => h ?_⟩
      rw [← List.mem_singleton.mp hb, ← z]
      exact ha
  · rw [val_put]
    by_cases e : y = x
    · subst e
      rw [if_pos rfl, if_pos rfl]
    · rw [if_neg (by simpa using e), if_neg e]
      exact m.at_ y (hy.resolve_right e)
  · rw [val_put, if_neg (by simpa using fun z : y = x => hy (.inr z))]
    exact m.no y fun z => hy (.inl z)
  · have : kv.1 ∈ (putP l (.inr x) v).map (·.1) := List.mem_map.mpr ⟨kv, hk, rfl⟩
    rw [put_keys] at this
    have old : kv.1 ∈ l.map (·.1) → ∃ x ∈ ns, kv.1 = .inr x := fun h => by
      obtain ⟨kv', h1, h2⟩ := List.mem_map.mp h
      rw [← h2]
      exact m.ky kv' h1
    split at this
    · exact old this
    · rcases List.mem_append.mp this with z | z
      · exact old z
      · exact ⟨x, hx, List.mem_singleton.mp z⟩
theorem MD.nil (ns : List Str) (f : Str → PV) : MD ns [] f fun _ => False := ⟨List.nodup_nil, fun _ h => h.elim, fun _ _ => rfl, by simp⟩
open Classical in
noncomputable def tieTake (ts : List Tel) (i : Nat) : List Tel := ((zay ts).take i).filter fun t => decide (IsTie ts t)
theorem mem_tieTake {ts : List Tel} {i : Nat} {t : Tel} : t ∈ tieTake ts i ↔ t ∈ (zay ts).take i ∧ IsTie ts t := by
  unfold tieTake
  rw [List.mem_filter]
  simp
theorem tieTake_sub {ts : List Tel} (nd : (ts.map Tel.name).Nodup) {i : Nat} {t : Tel} (h : t ∈ tieTake ts i) : t ∈ tieRows ts := (mem_ties nd).mpr ⟨(sort_perm ts).mem_iff.mp (List.mem_of_mem_take (mem_tieTake.mp h).1), (mem_tieTake.mp h).2⟩
theorem split_at {ts : List Tel} {i : Nat} {t : Tel} (hi : (zay ts)[i]? = some t) : zay ts = (zay ts).take i ++ t :: (zay ts).drop (i + 1) := by
  obtain ⟨h1, h2⟩ := List.getElem?_eq_some_iff.mp hi
  conv => lhs; rw [← List.take_append_drop i (zay ts), List.drop_eq_getElem_cons h1, h2]
theorem take_joined {ts : List Tel} (nd : (ts.map Tel.name).Nodup) : ∀ (i : Nat), ∀ u ∈ (zay ts).take i, Joined (tieTake ts i) u.st u.en
  | 0, _, h => by simp at h
  | i + 1, u, h => by
    have up : ∀ {x y}, Joined (tieTake ts i) x y → Joined (tieTake ts (i + 1)) x y := fun j => j.mono fun v hv => by
      rw [mem_tieTake] at hv ⊢
      exact ⟨by rw [List.take_add_one]; exact List.mem_append_left _ hv.1, hv.2⟩
    rw [List.take_add_one] at h
    rcases List.mem_append.mp h with z | z
    · exact up (take_joined nd i u z)
    · cases hi : (zay ts)[i]? with
      | none => rw [hi] at z; simp at z
      | some t =>
        rw [hi] at z
        have eu : u = t := by simpa using z
        subst eu
        by_cases ht : IsTie ts u
        · refine Joined.of (mem_tieTake.mpr ⟨?_, ht⟩)
          rw [List.take_add_one, hi]
          simp
        · have j : Joined (ahead ts u) u.st u.en := Classical.byContradiction ht
          exact up (((joined_congr (pre_ahead nd (split_at hi))).mpr j).into (take_joined nd i))
theorem take_joined_iff {ts : List Tel} (nd : (ts.map Tel.name).Nodup) {i : Nat} {x y : Str} : Joined ((zay ts).take i) x y ↔ Joined (tieTake ts i) x y := ⟨fun j => j.into (take_joined nd i), fun j => j.mono fun t ht => (mem_tieTake.mp ht).1⟩
end Sb
namespace Sb
open PySem
structure LW (ns : List Str) (ts : List Tel) (i : Nat) (mk : Str → Str) (P : Str → Mv) (seen : Str → Prop) : Prop where
  jn : ∀ x y, mk x = mk y ↔ Joined ((zay ts).take i) x y
  idm : ∀ x, mk (mk x) = mk x
  p0 : ∀ x, (P x).1 ≠ 0
  ag : ∀ t ∈ tieTake ts i, Agrees P t
  rt : ∀ x, P (mk x) = one2
  un : ∀ x, ¬ seen x → mk x = x ∧ P x = one2
  ms : ∀ x, seen x → seen (mk x)
  sn : ∀ x, seen x → x ∈ ns
theorem one_ne : (one2).1 ≠ 0 := by show (1 : Rat) ≠ 0; decide
section
variable {ns : List Str} {ts : List Tel} {i : Nat} {mk : Str → Str} {P : Str → Mv} {seen : Str → Prop} {t : Tel}
theorem LW.root (L : LW ns ts i mk P seen) (x : Str) : P x = rel P (mk x) x := by
  unfold rel
  rw [L.rt x]
  have : bck one2 = one2 := by
    have := thn_bck (p := one2) one_ne
    rwa [one_thn] at this
  rw [this, one_thn]
theorem LW.size (L : LW ns ts i mk P seen) (b : Bk ns ts) (hn : ns.length ≤ 16) (x : Str) : Qs 916 (P x).1 ∧ Qs 2761 (P x).2 := by
  by_cases hs : seen x
  · have j : Joined (tieTake ts i) (mk x) x := (take_joined_iff b.nd).mp ((L.jn _ _).mp (L.idm x))
    obtain ⟨vs, c, w⟩ := j.path
    have sub : ∀ t ∈ tieTake ts i, t ∈ ts := fun t ht => tieRows_mem (tieTake_sub b.nd ht)
    have l := w.short (L.sn _ (L.ms x hs)) (b.ends sub)
    have := w.size L.p0 L.ag fun t ht => ⟨(b.ok t (sub t ht)).a0, (b.ok t (sub t ht)).qa, (b.ok t (sub t ht)).qb⟩
    rw [L.root x]
    exact ⟨this.1.mono (by omega), this.2.mono (by omega)⟩
  · rw [(L.un x hs).2]
    exact ⟨q1.mono (by decide), q0.mono (by decide)⟩
end
end Sb
namespace Sb
open PySem
theorem same_list {h : PH} {m n d : Nat} {l : List PV} (e1 : h[m]? = some (.lst l)) (e2 : h[n]? = some (.lst l)) (hl : l.length ≤ 1000000) (hs : ∀ x ∈ l, sameP h d x x) : sameP h (d + 1) (.ref m) (.ref n) := by
  unfold sameP
  refine ⟨l, l, e1, e2, rfl, hl, fun i x y hx hy => ?_⟩
  rw [hx] at hy
  cases hy
  exact hs x (List.mem_of_getElem? hx)
theorem same_tup {h : PH} {d : Nat} {l : List PV} (hl : l.length ≤ 1000000) (hs : ∀ x ∈ l, sameP h d x x) : sameP h (d + 1) (.tup l) (.tup l) := by
  unfold sameP
  refine ⟨rfl, hl, fun i x y hx hy => ?_⟩
  rw [hx] at hy
  cases hy
  exact hs x (List.mem_of_getElem? hx)
theorem same_str {h : PH} {d : Nat} (x : Str) : sameP h d (.str x) (.str x) := by unfold sameP; trivial
theorem Rows.size {ns : List Str} {ts : List Tel} {P : Str → Mv} (R : Rows ts (tieRows ts) P) (b : Bk ns ts) {s x : Str} (hs : s ∈ ns) (j : Joined (tieRows ts) s x) : Qs 1648 (rel P s x).1 ∧ Qs 4969 (rel P s x).2 := by
  obtain ⟨vs, c, w⟩ := j.path
  have l := w.short hs (b.ends fun t => tieRows_mem)
  have := w.size R.p0 R.ag fun t ht => R.qa t (R.sub t ht)
  have nl := b.nl
  exact ⟨this.1.mono (by omega), this.2.mono (by omega)⟩
end Sb
namespace Sb
open PySem
structure Sh (f : Tel → Tel) : Prop where
  name : ∀ t, (f t).name = t.name
  st : ∀ t, (f t).st = t.st
  en : ∀ t, (f t).en = t.en
  tr : ∀ t, (f t).tr = t.tr
section
variable {f : Tel → Tel} {ts : List Tel}
theorem Sh.le (s : Sh f) (a b : Tel) : leT (f a) (f b) = leT a b := by unfold leT Tel.key; rw [s.name, s.name, s.tr, s.tr]
theorem Sh.lt (s : Sh f) (a b : Tel) : ltT (f a) (f b) = ltT a b := by unfold ltT; rw [s.le]
theorem Sh.names (s : Sh f) : (ts.map f).map Tel.name = ts.map Tel.name := by rw [List.map_map]; exact List.map_congr_left fun t _ => s.name t
end
end Sb
namespace Sb
open PySem
theorem nin2 {n a b : Nat} (h1 : n ≠ a) (h2 : n ≠ b) : n ∉ [a, b] := by
  rw [List.mem_cons, List.mem_singleton]
  omega
theorem Bk.sub {ns : List Str} {ts us : List Tel} (b : Bk ns ts) (h : us.Sublist ts) : Bk ns us := ⟨(h.map Tel.name).nodup b.nd, fun t ht => b.ok t (h.mem ht), Nat.le_trans h.length_le b.len, b.nl⟩
end Sb
namespace Sb
open PySem
theorem pd_strs {h : PH} {d : Nat} {l : List Str} (ok : ∀ x ∈ l, strOkP x = true) : mapO (pd h d) (l.map PV.str) = some (l.map PyData.str) := by
  have := mapO_some (f := pd h d) (g := fun v => match v with | .str x => PyData.str x | _ => .none) (l := l.map PV.str) fun v hv => by
    obtain ⟨x, hx, rfl⟩ := List.mem_map.mp hv
    exact pd_str (ok x hx)
  rw [this, List.map_map]
  rfl
theorem eqv_strs : ∀ l k : List Str, PyData.eqvAll (l.map PyData.str) (k.map PyData.str) = decide (l = k)
  | [], [] => by simp [PyData.eqvAll]
  | [], _ :: _ => by simp [PyData.eqvAll]
  | _ :: _, [] => by simp [PyData.eqvAll]
  | a :: l, b :: k => by
    simp only [List.map_cons, PyData.eqvAll, eqv_strs l k, PyData.eqv]
    by_cases h1 : a = b <;> by_cases h2 : l = k <;> simp [h1, h2]
theorem eq_strs {h : PH} {m n : Nat} {l k : List Str} (e1 : h[m]? = some (.lst (l.map PV.str))) (e2 : h[n]? = some (.lst (k.map PV.str))) (o1 : ∀ x ∈ l, strOkP x = true) (o2 : ∀ x ∈ k, strOkP x = true) : cmpop .Eq (.ref m) (.ref n) h = .ok (.bl (decide (l = k))) h := by
  show ofO ((eqP h (.ref m) (.ref n)).map PV.bl) h = _
  have p1 : pd h 8 (.ref m) = some (.list (l.map PyData.str)) := by simp only [pd, e1, pd_strs o1]; rfl
  have p2 : pd h 8 (.ref n) = some (.list (k.map PyData.str)) := by simp only [pd, e2, pd_strs o2]; rfl
  simp only [eqP, p1, p2, PyData.eqv, eqv_strs]
  rfl
/-- a comprehension whose parts change nothing -/
theorem v_filt {α : Type} {C : Calls} {tg : List Nat} {one : TgK} {k : ITK} {its : List E} {cond : Option E} {own : List Nat} {a : E} {ρ : Env} {h h1 : PH} {Q : PV → PH → Prop} {l : List PV} {kp : Keep} (xs : List α) (f g : α → PV) (p : α → Bool) (e1 : evGs C its ρ h = .ok l h1) (e2 : walkF k l h1 = some (xs.map f, kp)) (hk : zbf kp h1) (hl : xs.length ≤ 1000000)
    (hs : ∀ x ∈ xs, ∃ ρ1, zbp (wipeP ρ own) tg one (f x) = some ρ1 ∧ evGc C cond ρ1 h1 = .ok (p x) h1 ∧ (p x = true → evG C a false ρ1 h1 = .ok (g x) h1))
    (hd : Q (.ref h1.length) (h1 ++ [.lst ((xs.filter p).map g)])) : (evG C (.comp a tg one k its cond own) false ρ h).Sat Q := by
  refine v_compE e1 e2 (fun i acc h' => h' = h1 ∧ acc = ((xs.take i).filter p).map g) ⟨rfl, by simp⟩ ?_ ?_
  · rintro i y acc h' hy ⟨rfl, rfl⟩
    rw [List.getElem?_map] at hy
    obtain ⟨u, hu, rfl⟩ := Option.map_eq_some_iff.mp hy
    have hi := (List.getElem?_eq_some_iff.mp hu).1
    obtain ⟨ρ1, h2, h3, h4⟩ := hs u (List.mem_of_getElem? hu)
    refine ⟨hk, ρ1, h2, ?_⟩
    have fl : ((xs.take i).filter p).length ≤ i := Nat.le_trans (List.length_filter_le ..) (by rw [List.length_take]; omega)
    rw [h3, zan]
    cases hp : p u with
    | false =>
      rw [if_neg Bool.false_ne_true, List.take_add_one, hu]
      simp [List.filter_append, List.filter, hp]
    | true =>
      rw [if_pos rfl, h4 hp, zan]
      refine ⟨zal (by rw [List.length_map]; omega), rfl, ?_⟩
      rw [List.take_add_one, hu]
      simp [List.filter_append, List.filter, hp]
  · rintro acc h' ⟨rfl, rfl⟩
    have fl : ((xs.take xs.length).filter p).length ≤ xs.length := Nat.le_trans (List.length_filter_le ..) (by rw [List.length_take]; omega)
    simp only [List.length_map, List.take_length] at fl ⊢
    exact ⟨hk, zal (by omega), hd⟩
@[simp] theorem fin_tb (b : Bool) (h : PH) : fin true (.ok (.bl b) h) = .ok (.bl b) h := rfl
@[simp] theorem asB_b (b : Bool) (h : PH) : asB (.ok (.bl b) h) = .ok b h := rfl
theorem x_tupE {C : Calls} {ρ ρ' : Env} {h h1 : PH} {N : Env → PH → Prop} {T : PV → PH → Prop} {e : E} {is : List Nat} {l : List PV} (e1 : evG C e false ρ h = .ok (.tup l) h1) (e2 : setAll ρ is l = some ρ') (n : N ρ' h1) : (exS C (.asg (.tup is) e) ρ h).Sat N T := by
  rw [x_tup, e1, zan]
  exact ⟨ρ', e2, n⟩
theorem filter_true {α : Type} (l : List α) : l.filter (fun _ => true) = l := by simp
end Sb
namespace Sb
open PySem
theorem Path.used {rows : List Tel} {s x : Str} {vs : List Str} {c : List Step} (nd : (rows.map Tel.name).Nodup) (w : Path rows s vs c x) : (c.map (·.1)).Nodup ∧ (∀ t ∈ rows, t.name ∈ c.map (·.1) → t.st ∈ vs ∧ t.en ∈ vs) ∧ ∀ m ∈ c.map (·.1), m ∈ rows.map Tel.name := by
  induction w with
  | nil => simp
  | @snoc vs c y p w m n ih =>
    obtain ⟨i1, i2, i3⟩ := ih
    have key : ∃ t ∈ rows, p.1.1 = t.name ∧ ((t.st = y ∧ t.en = p.2) ∨ (t.en = y ∧ t.st = p.2)) := by
      obtain ⟨t, ht, ⟨rfl, hx⟩ | ⟨rfl, hx⟩⟩ := steps_mem m
      · exact ⟨t, ht, rfl, .inl ⟨hx, rfl⟩⟩
      · exact ⟨t, ht, rfl, .inr ⟨hx, rfl⟩⟩
    obtain ⟨t, ht, en, he⟩ := key
    have yv := w.vmem.1
    refine ⟨?_, fun u hu hm => ?_, fun z hz => ?_⟩
    · rw [List.map_append, List.nodup_append]
      refine ⟨i1, by simp, fun a ha b hb e => ?_⟩
      simp at hb
      rw [e, hb, en] at ha
      obtain ⟨h1, h2⟩ := i2 t ht ha
      rcases he with ⟨_, h⟩ | ⟨_, h⟩
      · exact n (by rw [← h]; exact h2)
      · exact n (by rw [← h]; exact h1)
    · rw [List.map_append] at hm
      rcases List.mem_append.mp hm with z | z
      · exact ⟨List.mem_append_left _ (i2 u hu z).1, List.mem_append_left _ (i2 u hu z).2⟩
      · simp at z
        have eu := tel_uniq nd ht hu (z.trans en)
        subst eu
        rcases he with ⟨h1, h2⟩ | ⟨h1, h2⟩
        · exact ⟨by rw [h1]; exact List.mem_append_left _ yv, by rw [h2]; simp⟩
        · exact ⟨by rw [h2]; simp, by rw [h1]; exact List.mem_append_left _ yv⟩
    · rw [List.map_append] at hz
      rcases List.mem_append.mp hz with q | q
      · exact i3 z q
      · simp at q
        rw [q, en]
        exact List.mem_map.mpr ⟨t, ht, rfl⟩
theorem Path.few {rows : List Tel} {s x : Str} {vs : List Str} {c : List Step} (nd : (rows.map Tel.name).Nodup) (w : Path rows s vs c x) : c.length ≤ rows.length := by
  have u := w.used nd
  have := nodup_len u.1 u.2.2
  simpa using this
end Sb
namespace Sb
open PySem
structure Kw (h : PH) (B : Nat) (L : List (Nat × PO)) : Prop where
  st : St h 2 0 1 B
  at_ : ∀ p ∈ L, h[p.1]? = some p.2
  nd : (L.map (·.1)).Nodup
  hi : ∀ p ∈ L, 3 ≤ p.1
section
variable {h h' : PH} {B B' n : Nat} {o o' : PO} {L : List (Nat × PO)}
theorem Kw.get (K : Kw h B L) (i : Nat) (e : L[i]? = some (n, o) := by rfl) : h[n]? = some o := K.at_ (n, o) (List.mem_of_getElem? e)
theorem Kw.mem_lt (K : Kw h B L) {p : Nat × PO} (m : p ∈ L) : p.1 < h.length := (List.getElem?_eq_some_iff.mp (K.at_ p m)).1
theorem Kw.frS (K : Kw h B L) (f : Fr [2, 0] h h') (st : St h' 2 0 1 B') : Kw h' B' L := ⟨st, fun p hp => f.some (by have := K.hi p hp; exact nin2 (by omega) (by omega)) (K.at_ p hp), K.nd, K.hi⟩
theorem Kw.fr (K : Kw h B L) (f : Fr [] h h') : Kw h' B L := K.frS (f.mono (by simp)) (K.st.frame f (by simp) (by simp) (by simp))
theorem Kw.len (K : Kw h B L) : 3 ≤ h.length := by
  have := K.st.lt
  omega
theorem Kw.fresh (K : Kw h B L) (hl : h.length ≤ n) : n ∉ L.map (·.1) := fun m => by
  obtain ⟨p, hp, rfl⟩ := List.mem_map.mp m
  have := K.mem_lt hp
  omega
theorem Kw.add (K : Kw h B L) (hn : n ∉ L.map (·.1)) (h3 : 3 ≤ n) (e : h[n]? = some o) : Kw h B ((n, o) :: L) := ⟨K.st, fun p hp => by
  rcases List.mem_cons.mp hp with rfl | hp
  · exact e
  · exact K.at_ p hp, by rw [List.map_cons]; exact List.nodup_cons.mpr ⟨hn, K.nd⟩, fun p hp => by
  rcases List.mem_cons.mp hp with rfl | hp
  · exact h3
  · exact K.hi p hp⟩
theorem Kw.new (K : Kw h B L) (f : Fr [] h h') (hl : h.length ≤ n) (e : h'[n]? = some o) : Kw h' B ((n, o) :: L) := (K.fr f).add (K.fresh hl) (by have := K.len; omega) e
theorem Kw.push (K : Kw h B L) (o : PO) : Kw (h ++ [o]) B ((h.length, o) :: L) := K.new Fr.app (Nat.le_refl _) (by simp)
theorem Kw.app (K : Kw h B L) (t : PH) : Kw (h ++ t) B L := K.fr Fr.app
theorem Kw.up (K : Kw h B L) (hb : B ≤ B') : Kw h B' L := ⟨K.st.up hb, K.at_, K.nd, K.hi⟩
theorem Kw.sub {L' : List (Nat × PO)} (K : Kw h B L) (s : L'.Sublist L) : Kw h B L' := ⟨K.st, fun p hp => K.at_ p (s.subset hp), (s.map _).nodup K.nd, fun p hp => K.hi p (s.subset hp)⟩
theorem Kw.set0 (K : Kw h B ((n, o) :: L)) (o' : PO) : Kw (h.set n o') B ((n, o') :: L) := by
  have g3 := K.hi (n, o) (by simp)
  refine ⟨K.st.setNew (by simp at g3; omega) (by simp at g3; omega) (by simp at g3; omega), fun p hp => ?_, K.nd, fun p hp => ?_⟩
  · rcases List.mem_cons.mp hp with rfl | hp
    · exact set_at (K.at_ (n, o) (by simp))
    · have := (List.nodup_cons.mp K.nd).1
      rw [set_ne' (fun z => this (List.mem_map.mpr ⟨p, hp, z.symm⟩))]
      exact K.at_ p (List.mem_cons_of_mem _ hp)
  · rcases List.mem_cons.mp hp with rfl | hp
    · exact g3
    · exact K.hi p (List.mem_cons_of_mem _ hp)
theorem Kw.perm {L' : List (Nat × PO)} (K : Kw h B L) (s : L.Perm L') : Kw h B L' := ⟨K.st, fun p hp => K.at_ p (s.mem_iff.mpr hp), (s.map _).nodup_iff.mp K.nd, fun p hp => K.hi p (s.mem_iff.mpr hp)⟩
theorem Kw.set {i : Nat} (K : Kw h B L) (e : L[i]? = some (n, o)) (o' : PO) : Kw (h.set n o') B (L.set i (n, o')) := by
  obtain ⟨hi, e1⟩ := List.getElem?_eq_some_iff.mp e
  have p1 : L.Perm ((n, o) :: L.eraseIdx i) := (perm_erase e).symm
  have K1 := (K.perm p1).set0 o'
  refine K1.perm ?_
  have : (L.set i (n, o'))[i]? = some (n, o') := by simp [hi]
  have p2 := perm_erase this
  rwa [List.eraseIdx_set_eq] at p2
end
section
variable {tbl : Nat → Fn} {h : PH} {k B : Nat} {L : List (Nat × PO)}
theorem kstart (h4 : tbl 4 = F_law_start) {ns : List Int} (hn : ns.length ≤ 63) {Q : PV → PH → Prop} (q : ∀ h', Kw h' 0 [] → h'.length = 3 → Q (.ref 2) h') : (call tbl (k + 1) 4 [.cl (ns.map PV.int)] []).Sat Q :=
  start_sat h4 (k := k) (h := []) hn fun h' st _ hl => q h' ⟨st, by simp, by simp, by simp⟩ (by simpa using hl)
end
end Sb
namespace Sb
open PySem
/-- what is found so far -/
structure RF (rows : List Tel) (s : Str) (h : PH) (d : Nat) (g : PH) (fs : List Str) : Prop where
  e : g[d]? = some (.lst (fs.map PV.str))
  nd : fs.Nodup
  s0 : s ∈ fs
  jn : ∀ x ∈ fs, Joined rows s x
  am : ∀ x ∈ fs, x = s ∨ x ∈ ends rows
  fr : Fr [] h g
section
variable {rows : List Tel} {s : Str} {h g : PH} {d : Nat} {fs : List Str}
theorem RF.len (Z : RF rows s h d g fs) : fs.length ≤ 2 * rows.length + 1 := by
  have := nodup_len Z.nd (B := s :: ends rows) fun x hx => by
    rcases Z.am x hx with rfl | z
    · simp
    · exact List.mem_cons_of_mem _ z
  rw [List.length_cons, ends_len] at this
  omega
theorem mem_ends {t : Tel} (m : t ∈ rows) : t.st ∈ ends rows ∧ t.en ∈ ends rows := by
  unfold ends
  constructor
  · exact List.mem_flatMap.mpr ⟨t, m, by simp⟩
  · exact List.mem_flatMap.mpr ⟨t, m, by simp⟩
theorem RF.add (Z : RF rows s h d g fs) (dl : h.length ≤ d) {y : Str} (hy : y ∉ fs) (j : Joined rows s y) (ye : y ∈ ends rows) : RF rows s h d (g.set d (.lst (fs.map PV.str ++ [.str y]))) (fs ++ [y]) :=
  ⟨by rw [set_at Z.e]; simp, List.nodup_append.mpr ⟨Z.nd, by simp, fun a ha b hb => by rw [List.mem_singleton.mp hb]; rintro rfl; exact hy ha⟩, List.mem_append_left _ Z.s0, fun x hx => by
    rcases List.mem_append.mp hx with q | q
    · exact Z.jn x q
    · rw [List.mem_singleton.mp q]; exact j, fun x hx => by
    rcases List.mem_append.mp hx with q | q
    · exact Z.am x q
    · rw [List.mem_singleton.mp q]; exact .inr ye, Z.fr.setNew dl⟩
theorem RF.done (Z : RF rows s h d g fs) (nd : (rows.map Tel.name).Nodup) (cp : ∀ y vs c, Path rows s vs c y → c.length ≤ rows.length → y ∈ fs) (x : Str) : x ∈ fs ↔ Joined rows s x :=
  ⟨Z.jn x, fun j => by
    obtain ⟨vs, c, w⟩ := j.path
    exact cp x vs c w (w.few nd)⟩
end
end Sb
namespace Sb
open PySem
theorem Joined.among {rows : List Tel} {s x : Str} (j : Joined rows s x) : x = s ∨ x ∈ ends rows := by
  cases j with
  | refl => exact .inl rfl
  | step m j e => exact .inr (mem_ends m).2
  | back m j e => exact .inr (mem_ends m).1
end Sb
namespace Sb
open PySem
section
variable {C : Calls} {ρ ρ1 : Env} {h h1 : PH} {N : Env → PH → Prop} {T : PV → PH → Prop} {b hs : List S} {c f : Str} {xs : List Str} {x : Exn} {i : Option Nat} {a : E} {t : Bool}
@[simp] theorem g_xat : evG C (.xat a f c) t ρ h = fin t ((evG C a false ρ h).bind fun x h1 => xatop x f c h1) := by rw [evG]
end
end Sb
namespace Sb
open PySem
theorem same_int {h : PH} {d : Nat} (b : Int) : sameP h d (.int b) (.int b) := by unfold sameP; rfl
end Sb
namespace Sb
open PySem
section
variable {C : Calls} {t : Bool} {ρ : Env} {h : PH} {a b c : E}
@[simp] theorem g_fld (k f : Str) : evG C (.fld k f a) t ρ h = fin t ((evG C a false ρ h).bind fun x h1 => fldop k f x h1) := by first | rfl | (rw [evG]; done) | (rw [evG]; rfl)
@[simp] theorem g_meth (k m : Str) (f : Nat) (es : List E) (ds : List PV) : evG C (.meth k m f a es ds) t ρ h = fin t ((evG C a false ρ h).bind fun x h1 => if insB k m h1 x then (evGs C es ρ h1).bind fun l h2 => C f (x :: (l ++ ds)) h2 else .no) := by first | rfl | (rw [evG]; done) | (rw [evG]; rfl)
@[simp] theorem g_make (k : Str) (f : Nat) (es : List E) (ds : List PV) : evG C (.make k f es ds) t ρ h = fin t ((evGs C es ρ h).bind fun l h1 => (C f (.ref h1.length :: (l ++ ds)) (h1 ++ [.obj k []])).bind fun v h2 => isNew v h1.length h2) := by first | rfl | (rw [evG]; done) | (rw [evG]; rfl)
@[simp] theorem g_chain (op op2 : CmpOp) : evG C (.chain op op2 a b c) t ρ h = fin t ((evG C a false ρ h).bind fun x h1 => (evG C b false ρ h1).bind fun y h2 => (cmpop op x y h2).bind fun k h3 => match k with
      | .bl true => (evG C c false ρ h3).bind fun z h4 => cmpop op2 y z h4
      | .bl false => .ok (.bl false) h3
      | _ => .no) := by first | rfl | (rw [evG]; done) | (rw [evG]; rfl)
@[simp] theorem g_dctc (l : List (L2.Key × PV)) : evG C (.dctc l) t ρ h = fin t (allocD l h) := by first | rfl | (rw [evG]; done) | (rw [evG]; rfl)
end
section
variable {C : Calls} {ρ : Env} {h : PH} {N : Env → PH → Prop} {T : PV → PH → Prop} {e : E}
@[simp] theorem x_fldset (k f : Str) (o : E) : (exS C (.asg (.fld k f o) e) ρ h).Sat N T = (evG C e false ρ h).Sat fun v h1 => (evG C o false ρ h1).Sat fun x h2 => ∃ h3, setfld k f x v h2 = some h3 ∧ N ρ h3 := by
  simp only [exS, ssat_st, stTg]
  congr 1
  funext v h1
  congr 1
  funext x h2
  cases setfld k f x v h2 <;> simp
@[simp] theorem x_augf (k f : Str) (o : E) (op : Operator) : (exS C (.augf k f o op e) ρ h).Sat N T = (evG C o false ρ h).Sat fun ov h1 => (fldop k f ov h1).Sat fun x h2 => (evG C e false ρ h2).Sat fun y h3 => (iopF op x y h3).Sat fun z h4 => ∃ h5, setfld k f ov z h4 = some h5 ∧ N ρ h5 := by
  simp only [exS, ssat_st]
  congr 1
  funext v h1
  congr 1
  funext x h2
  congr 1
  funext y h3
  congr 1
  funext z h4
  cases setfld k f v z h4 <;> simp
end
end Sb
namespace Sb
open PySem
section
variable {C : Calls} {t : Bool} {ρ : Env} {h : PH} {a b : E}
@[simp] theorem g_stp : evG C (.stp a b) t ρ h = fin t ((evG C a false ρ h).bind fun x h1 => (evG C b false ρ h1).bind fun st h2 => stpop x st h2) := by rw [evG]
@[simp] theorem g_rev : evG C (.rev a) t ρ h = fin t ((evG C a false ρ h).bind fun x h1 => revop x h1) := by rw [evG]
end
end Sb
namespace Sb
open PySem
/-- a watch's name with the move that is heard -/
abbrev Snd := Str × Option (Rat × Rat)
def ldv : Option (Rat × Rat) → PV
  | none => .non
  | some m => .tup [fq m.1, fq m.2]
def sv (s : Snd) : PV := .tup [.str s.1, ldv s.2]
structure NmOk (x : Str) : Prop where
  ok : strOkP x = true
  len : x.length ≤ 8
structure SndOk (s : Snd) : Prop where
  nm : NmOk s.1
  ld : ∀ m, s.2 = some m → Qs 44 m.1 ∧ Qs 44 m.2
def txI (i : Int) : Str := Str.ofString (toString i)
def numT (q : Rat) : Str := if q.den = 1 then txI q.num else txI q.num ++ "/" ++ txI q.den
def leadT : Option (Rat × Rat) → Str
  | none => "none"
  | some m => numT m.1 ++ "," ++ numT m.2
def sT (s : Snd) : Str := s.1 ++ "=" ++ leadT s.2
def TX (l0 l1 : List Str) (l2 : List Snd) : List Str := (l0.map fun x => ("+" : Str) ++ x) ++ (l1.map fun x => ("-" : Str) ++ x) ++ l2.map sT
theorem zbq (x y : Str) : (x ++ y).length = x.length + y.length := Str.length_append x y
theorem txI_len {i : Int} (h : i.natAbs < 2 ^ 44) : (txI i).length ≤ 15 := by
  show (Str.ofString (toString i)).length ≤ 15
  rw [ofString_length]
  exact int_text_length_le10 (k := 14) (by decide) (Nat.lt_trans h (by decide))
theorem bi_str1 {i : Int} {h : PH} (hi : i.natAbs < 2 ^ 44) : biF .str1 [.int i] h = .ok (.str (txI i)) h := by
  show (if i.natAbs.log2 < 1920 then R.ok (PV.str (toString i)) h else .no) = _
  rw [if_pos (log2_small (n := 1920) (by decide) (Nat.lt_trans hi (by decide)))]
  rfl
theorem addT {x y : Str} {h : PH} (e : x.length + y.length ≤ 1000000) : binop .Add (.str x) (.str y) h = .ok (.str (x ++ y)) h := by
  show (if zaq (x.length + y.length) then _ else _) = _
  rw [if_pos (zal e)]
theorem len_slash : ("/" : Str).length = 1 := by decide +kernel
theorem len_comma : ("," : Str).length = 1 := by decide +kernel
theorem len_eqs : ("=" : Str).length = 1 := by decide +kernel
theorem len_none : ("none" : Str).length = 4 := by decide +kernel
theorem len_plus : ("+" : Str).length = 1 := by decide +kernel
theorem len_minus : ("-" : Str).length = 1 := by decide +kernel
theorem len_blank : (" " : Str).length = 1 := by decide +kernel
theorem numT_len {q : Rat} (h : Qs 44 q) : (numT q).length ≤ 31 := by
  unfold numT
  have h1 := txI_len h.num
  have h2 : (txI q.den).length ≤ 15 := txI_len (by simpa using h.den)
  split
  · omega
  · rw [zbq, zbq, len_slash]
    omega
theorem leadT_len {l : Option (Rat × Rat)} (h : ∀ m, l = some m → Qs 44 m.1 ∧ Qs 44 m.2) : (leadT l).length ≤ 63 := by
  cases l with
  | none => show ("none" : Str).length ≤ 63; rw [len_none]; omega
  | some m =>
    obtain ⟨h1, h2⟩ := h m rfl
    have a := numT_len h1
    have b := numT_len h2
    show (numT m.1 ++ "," ++ numT m.2).length ≤ 63
    rw [zbq, zbq, len_comma]
    omega
theorem sT_len {s : Snd} (h : SndOk s) : (sT s).length ≤ 72 := by
  have a := h.nm.len
  have b := leadT_len h.ld
  unfold sT
  rw [zbq, zbq, len_eqs]
  omega
section
variable {tbl : Nat → Fn} {k : Nat} {h : PH} {Q : PV → PH → Prop}
/-- the program's number -/
theorem written_eq (h453 : tbl 453 = F_number_written) {q : Rat} (ok : Qs 44 q) : call tbl (k + 1) 453 [fq q] h = .ok (.str (numT q)) h := by
  refine R.Sat.eq ?_
  rw [zao, h453]
  refine zbn rfl ?_
  simp only [F_number_written, zax, List.map, List.length, List.replicate, List.cons_append, List.nil_append]
  have h1 := txI_len ok.num
  have o2 : ((q.den : Nat) : Int).natAbs < 2 ^ 44 := by simpa using ok.den
  have h2 := txI_len o2
  rw [zad]
  refine x_tupE (l := [.int q.num, .int q.den]) rfl rfl ?_
  simp only [List.set]
  rw [x_one]
  by_cases hd : q.den = 1
  · have c : decide (((q.den : Nat) : Int) = 1) = true := decide_eq_true (by omega)
    simp [c, bi_str1 ok.num, numT, hd]
  · have c : decide (((q.den : Nat) : Int) = 1) = false := decide_eq_false (by omega)
    simp [c, bi_str1 ok.num, bi_str1 o2, numT, hd]
    rw [addT (by rw [len_slash]; omega)]
    simp
    rw [addT (by rw [zbq, len_slash]; omega)]
    simp
/-- the law's number -/
theorem number_eq (h457 : tbl 457 = F_law_number_3) {q : Rat} (ok : Qs 44 q) : call tbl (k + 1) 457 [fq q] h = .ok (.str (numT q)) h := by
  refine R.Sat.eq ?_
  rw [zao, h457]
  refine zbn rfl ?_
  simp only [F_law_number_3, zax, List.map, List.length, List.replicate, List.cons_append, List.nil_append]
  have h1 := txI_len ok.num
  have o2 : ((q.den : Nat) : Int).natAbs < 2 ^ 44 := by simpa using ok.den
  have h2 := txI_len o2
  have i0 : ∀ h : PH, idxop (fq q) (.int 0) h = .ok (.int q.num) h := fun _ => rfl
  have i1 : ∀ h : PH, idxop (fq q) (.int 1) h = .ok (.int q.den) h := fun _ => rfl
  have b1 : ∀ (b : Bool) (h : PH), biF .int1 [.bl b] h = .ok (.int (if b then 1 else 0)) h := fun _ _ => rfl
  rw [x_one]
  simp [i0, i1, bi_str1 ok.num, bi_str1 o2, b1]
  rw [addT (by rw [len_slash]; omega)]
  by_cases hd : q.den = 1
  · have m0 : ∀ (x : Str) (h : PH), binop .Mult (.str x) (.int 0) h = .ok (.str Str.empty) h := fun _ _ => rfl
    have hi : ((q.den : Nat) : Int) = 1 := by omega
    simp [hi, m0, numT, hd]
    rw [addT (by show _ + 0 ≤ _; omega)]
    simp [Str.append_empty]
  · have m1 : ∀ (x : Str) (h : PH), binop .Mult (.str x) (.int 1) h = .ok (.str x) h := fun _ _ => rfl
    have hi : ¬ ((q.den : Nat) : Int) = 1 := by omega
    simp [hi, m1, numT, hd]
    rw [addT (by rw [zbq, len_slash]; omega)]
    simp [Str.append_assoc]
theorem join2 (sep x y : Str) : Txt.join sep [x, y] = x ++ sep ++ y := by
  rw [TL.join_eq]
  rfl
theorem mt_join {sep : Str} {n : Nat} {xs : List Str} {B : Nat} (e : h[n]? = some (.lst (xs.map PV.str))) (hl : ∀ x ∈ xs, x.length ≤ B) (hb : xs.length * B + xs.length * sep.length ≤ 1000000) : mtF .join (.str sep) [.ref n] h = .ok (.str (Txt.join sep xs)) h := by
  have e2 : (listOf h (.ref n)).bind strsOf = some xs := by
    simp only [listOf, e, Option.bind_some]
    exact strs_map _
  have hs : ∀ l : List Str, (∀ x ∈ l, x.length ≤ B) → (l.map fun (y : Str) => y.length).sum ≤ l.length * B := fun l => by
    induction l with
    | nil => intro _; simp
    | cons a r ih =>
      intro hx
      have h1 := ih fun x hx' => hx x (List.mem_cons_of_mem _ hx')
      have h2 := hx a List.mem_cons_self
      rw [List.map_cons, List.sum_cons, List.length_cons, Nat.succ_mul]
      omega
  show (match (listOf h (.ref n)).bind strsOf with | some ys => if (ys.map fun (y : Str) => y.length).sum + ys.length * sep.length ≤ 1000000 then R.ok (PV.str (Txt.join sep ys)) h else .no | none => .no) = _
  rw [e2]
  show (if _ then _ else _) = _
  rw [if_pos]
  have := hs xs hl
  omega
theorem move_text_sat (h453 : tbl 453 = F_number_written) (h454 : tbl 454 = F_move_text) {m : Rat × Rat} (o1 : Qs 44 m.1) (o2 : Qs 44 m.2) (q : ∀ t, Q (.str (numT m.1 ++ "," ++ numT m.2)) (h ++ t)) : (call tbl (k + 2) 454 [.tup [fq m.1, fq m.2], .str ","] h).Sat Q := by
  rw [zao, h454]
  refine zbn rfl ?_
  simp only [F_move_text, zax, List.map, List.length, List.replicate, List.cons_append, List.nil_append]
  rw [x_one]
  simp [tyOf, MT.ty]
  refine v_filt [m.1, m.2] fq (fun q => .str (numT q)) (fun _ => true) (l := [.tup [fq m.1, fq m.2]]) (h1 := h) (kp := []) (by simp) rfl (zbi _) (by simp) (fun q hq => ⟨_, rfl, by simp, fun _ => ?_⟩) ?_
  · have ok : Qs 44 q := by
      simp at hq
      rcases hq with rfl | rfl
      · exact o1
      · exact o2
    simp [wipeP, written_eq h453 (k := k) ok]
  · have a := numT_len o1
    have b := numT_len o2
    have e : (h ++ [PO.lst ((([m.1, m.2] : List Rat).filter fun _ => true).map fun q => .str (numT q))])[h.length]? = some (.lst ([numT m.1, numT m.2].map PV.str)) := by simp
    rw [mt_join (B := 31) e (by simp; exact ⟨a, b⟩) (by rw [len_comma]; simp)]
    rw [join2]
    exact q _
theorem heard_text_sat (h453 : tbl 453 = F_number_written) (h454 : tbl 454 = F_move_text) (h455 : tbl 455 = F_heard_text) {s : Snd} (ok : SndOk s) (q : ∀ t, Q (.str (sT s)) (h ++ t)) : (call tbl (k + 3) 455 [.str s.1, ldv s.2] h).Sat Q := by
  rw [zao, h455]
  refine zbn rfl ?_
  simp only [F_heard_text, zax, List.map, List.length, List.replicate, List.cons_append, List.nil_append]
  have a := ok.nm.len
  have b := leadT_len ok.ld
  rw [x_one]
  simp
  rw [addT (by rw [len_eqs]; omega)]
  obtain ⟨n, l⟩ := s
  cases l with
  | none =>
    have z : isNonP (ldv none) = true := rfl
    simp [z]
    rw [addT (by rw [zbq, len_eqs, len_none]; have : n.length ≤ 8 := a; omega)]
    have := q []
    rw [List.append_nil] at this
    exact this
  | some m =>
    obtain ⟨o1, o2⟩ := ok.ld m rfl
    have z : isNonP (ldv (some m)) = false := rfl
    simp [z]
    refine move_text_sat h453 h454 (k := k) (m := m) o1 o2 fun t => ?_
    have b' : (numT m.1 ++ "," ++ numT m.2).length ≤ 63 := b
    rw [addT (by rw [zbq, len_eqs]; have : n.length ≤ 8 := a; omega)]
    exact q t
end
def ldd : Option (Rat × Rat) → PyData
  | none => .none
  | some m => .tuple [.tuple [.int m.1.num, .int m.1.den], .tuple [.int m.2.num, .int m.2.den]]
def sd (s : Snd) : PyData := .tuple [.str s.1, ldd s.2]
theorem pd_sv {h : PH} {d : Nat} {s : Snd} (ok : SndOk s) : pd h (d + 3) (sv s) = some (sd s) := by
  obtain ⟨n, l⟩ := s
  have o : strOkP n = true := ok.nm.ok
  cases l with
  | none => simp [sv, sd, ldv, ldd, pd, mapO, o]
  | some m => simp [sv, sd, ldv, ldd, pd, mapO, fq, o]
theorem pd_svs {h : PH} {d : Nat} {l : List Snd} (ok : ∀ s ∈ l, SndOk s) : mapO (pd h (d + 3)) (l.map sv) = some (l.map sd) := by
  induction l with
  | nil => rfl
  | cons a r ih =>
    have h1 := pd_sv (h := h) (d := d) (ok a List.mem_cons_self)
    have h2 := ih fun s hs => ok s (List.mem_cons_of_mem _ hs)
    simp only [List.map_cons, mapO, h1, h2]
theorem eqv_sd (s t : Snd) : PyData.eqv (sd s) (sd t) = decide (s = t) := by
  obtain ⟨n, l⟩ := s
  obtain ⟨n', l'⟩ := t
  rw [Bool.eq_iff_iff, decide_eq_true_iff]
  cases l with
  | none =>
    cases l' with
    | none => simp [sd, ldd, PyData.eqv, PyData.eqvAll]
    | some m => simp [sd, ldd, PyData.eqv, PyData.eqvAll]
  | some m =>
    cases l' with
    | none => simp [sd, ldd, PyData.eqv, PyData.eqvAll]
    | some m' =>
      obtain ⟨a, b⟩ := m
      obtain ⟨a', b'⟩ := m'
      simp only [sd, ldd, PyData.eqv, PyData.eqvAll, Bool.and_true, Bool.and_eq_true, beq_iff_eq, Prod.mk.injEq, Option.some.injEq]
      constructor
      · rintro ⟨h1, ⟨h2, h3⟩, h4, h5⟩
        exact ⟨h1, Rat.ext h2 (by omega), Rat.ext h4 (by omega)⟩
      · rintro ⟨rfl, rfl, rfl⟩
        simp
theorem eqv_sds : ∀ l k : List Snd, PyData.eqvAll (l.map sd) (k.map sd) = decide (l = k)
  | [], [] => by simp [PyData.eqvAll]
  | [], _ :: _ => by simp [PyData.eqvAll]
  | _ :: _, [] => by simp [PyData.eqvAll]
  | a :: l, b :: k => by
    simp only [List.map_cons, PyData.eqvAll, eqv_sds l k, eqv_sd]
    by_cases h1 : a = b <;> by_cases h2 : l = k <;> simp [h1, h2]
theorem eq_snds {h : PH} {m n : Nat} {l k : List Snd} (e1 : h[m]? = some (.lst (l.map sv))) (e2 : h[n]? = some (.lst (k.map sv))) (o1 : ∀ s ∈ l, SndOk s) (o2 : ∀ s ∈ k, SndOk s) : cmpop .Eq (.ref m) (.ref n) h = .ok (.bl (decide (l = k))) h := by
  show ofO ((eqP h (.ref m) (.ref n)).map PV.bl) h = _
  have p1 : pd h 8 (.ref m) = some (.list (l.map sd)) := by simp only [pd, e1, pd_svs (d := 4) o1]; rfl
  have p2 : pd h 8 (.ref n) = some (.list (k.map sd)) := by simp only [pd, e2, pd_svs (d := 4) o2]; rfl
  simp only [eqP, p1, p2, PyData.eqv, eqv_sds]
  rfl
theorem same_sv {h : PH} {d : Nat} (s : Snd) : sameP h (d + 3) (sv s) (sv s) := by
  obtain ⟨n, l⟩ := s
  refine same_tup (by simp) fun y hy => ?_
  simp at hy
  rcases hy with rfl | rfl
  · exact same_str _
  · cases l with
    | none => show sameP h (d + 2) .non .non; unfold sameP; trivial
    | some m =>
      refine same_tup (d := d + 1) (by simp) fun y hy => ?_
      simp at hy
      rcases hy with rfl | rfl <;> exact same_fq _
end Sb
namespace Sb
open PySem
def fr3 {S : List Nat} {h h' : PH} (f : Fr S h h') (hs : ∀ n ∈ S, n < 3) : Fr [2, 1, 0] h h' := ⟨f.len, fun n hn hl => f.at_ n (fun m => by have := hs n m; simp at hn; omega) hl⟩
/-- three lists at n -/
structure L3s (h : PH) (n a b c : Nat) (l0 l1 : List Str) (l2 : List Snd) : Prop where
  top : h[n]? = some (.lst [.ref a, .ref b, .ref c])
  ha : h[a]? = some (.lst (l0.map PV.str))
  hb : h[b]? = some (.lst (l1.map PV.str))
  hc : h[c]? = some (.lst (l2.map sv))
  n3 : 3 ≤ n
  a3 : 3 ≤ a
  b3 : 3 ≤ b
  c3 : 3 ≤ c
  ab : a ≠ b
  ac : a ≠ c
  bc : b ≠ c
  na : n ≠ a
  nb : n ≠ b
  nc : n ≠ c
/-- news at n -/
structure NW (h : PH) (n a b c : Nat) (l0 l1 : List Str) (l2 : List Snd) : Prop where
  top : h[n]? = some (.obj "News" [("came", .ref a), ("went", .ref b), ("heard", .ref c)])
  ha : h[a]? = some (.lst (l0.map PV.str))
  hb : h[b]? = some (.lst (l1.map PV.str))
  hc : h[c]? = some (.lst (l2.map sv))
  n3 : 3 ≤ n
  a3 : 3 ≤ a
  b3 : 3 ≤ b
  c3 : 3 ≤ c
/-- what is told of three lists -/
structure WL (l0 l1 : List Str) (l2 : List Snd) : Prop where
  o0 : ∀ x ∈ l0, NmOk x
  o1 : ∀ x ∈ l1, NmOk x
  o2 : ∀ s ∈ l2, SndOk s
  k0 : l0.length ≤ 100
  k1 : l1.length ≤ 100
  k2 : l2.length ≤ 100
section
variable {h h' : PH} {n a b c : Nat} {l0 l1 : List Str} {l2 : List Snd} {S : List Nat}
theorem L3s.fr (x : L3s h n a b c l0 l1 l2) (f : Fr S h h') (hs : ∀ m ∈ S, m < 3 ∨ (m ≠ n ∧ m ≠ a ∧ m ≠ b ∧ m ≠ c)) : L3s h' n a b c l0 l1 l2 := by
  have k : ∀ {m : Nat} {o : PO}, 3 ≤ m → (m = n ∨ m = a ∨ m = b ∨ m = c) → h[m]? = some o → h'[m]? = some o := fun {m o} h3 hm e => f.some (fun z => by have := hs m z; omega) e
  exact ⟨k x.n3 (.inl rfl) x.top, k x.a3 (.inr (.inl rfl)) x.ha, k x.b3 (.inr (.inr (.inl rfl))) x.hb, k x.c3 (.inr (.inr (.inr rfl))) x.hc, x.n3, x.a3, x.b3, x.c3, x.ab, x.ac, x.bc, x.na, x.nb, x.nc⟩
theorem NW.fr (x : NW h n a b c l0 l1 l2) (f : Fr S h h') (hs : ∀ m ∈ S, m < 3 ∨ (m ≠ n ∧ m ≠ a ∧ m ≠ b ∧ m ≠ c)) : NW h' n a b c l0 l1 l2 := by
  have k : ∀ {m : Nat} {o : PO}, 3 ≤ m → (m = n ∨ m = a ∨ m = b ∨ m = c) → h[m]? = some o → h'[m]? = some o := fun {m o} h3 hm e => f.some (fun z => by have := hs m z; omega) e
  exact ⟨k x.n3 (.inl rfl) x.top, k x.a3 (.inr (.inl rfl)) x.ha, k x.b3 (.inr (.inr (.inl rfl))) x.hb, k x.c3 (.inr (.inr (.inr rfl))) x.hc, x.n3, x.a3, x.b3, x.c3⟩
theorem L3s.app {t : PH} (x : L3s h n a b c l0 l1 l2) : L3s (h ++ t) n a b c l0 l1 l2 := x.fr (Fr.app (S := [])) (by simp)
theorem NW.app {t : PH} (x : NW h n a b c l0 l1 l2) : NW (h ++ t) n a b c l0 l1 l2 := x.fr (Fr.app (S := [])) (by simp)
theorem zah {o : PO} (e : h[n]? = some o) : n < h.length := (List.getElem?_eq_some_iff.mp e).1
end
section
variable {tbl : Nat → Fn} {k B : Nat} {h : PH} {Q : PV → PH → Prop}
/-- copies of the three lists -/
theorem copies_sat {C : Calls} {ρ : Env} {j n a b c : Nat} {l0 l1 : List Str} {l2 : List Snd} (x : L3s h n a b c l0 l1 l2) (w : WL l0 l1 l2) (hj : ρ.get j = some (.ref n)) (hset : ∀ v, ∃ ρ1, zbp (wipeP ρ [5]) [5] .one v = some ρ1 ∧ ρ1.get 5 = some v) (h3 : 3 ≤ h.length)
    (q : ∀ n' a' b' c' g, h.length ≤ n' → h.length ≤ a' → h.length ≤ b' → h.length ≤ c' → Fr [] h g → L3s g n' a' b' c' l0 l1 l2 → Q (.ref n') g) : (evG C (.comp (.bi .listOf [.var 5]) [5] .one .seq [.var j] none [5]) false ρ h).Sat Q := by
  refine v_compE (l := [.ref n]) (h1 := h) (by simp [hj]) (walk_ref x.top) (fun i acc g => g = h ++ ([PO.lst (l0.map PV.str), .lst (l1.map PV.str), .lst (l2.map sv)].take i) ∧ acc = ([PV.ref h.length, .ref (h.length + 1), .ref (h.length + 2)].take i)) ⟨by simp, by simp⟩ ?_ ?_
  · rintro i y acc g hy ⟨rfl, rfl⟩
    have hi : i < 3 := by simpa using (List.getElem?_eq_some_iff.mp hy).1
    obtain ⟨ρ1, e1, e2⟩ := hset y
    refine ⟨zbh (by rw [List.getElem?_append_left (zah x.top)]; exact x.top), ρ1, e1, ?_⟩
    have bl : ∀ (m : Nat) (l : List PV) (g : PH), g[m]? = some (.lst l) → biF .listOf [.ref m] g = .ok (.ref g.length) (g ++ [.lst l]) := fun m l g e => by simp only [biF, biList, e]
    have xa := x.app (t := ([PO.lst (l0.map PV.str), .lst (l1.map PV.str), .lst (l2.map sv)].take i))
    have hi' : i = 0 ∨ i = 1 ∨ i = 2 := by omega
    rcases hi' with rfl | rfl | rfl
    · simp at hy
      subst hy
      have := bl _ _ _ xa.ha
      simp at this
      simp [e2, this]
      exact zal (by omega)
    · simp at hy
      subst hy
      have := bl _ _ _ xa.hb
      simp at this
      simp [e2, this]
      exact zal (by omega)
    · simp at hy
      subst hy
      have := bl _ _ _ xa.hc
      simp at this
      simp [e2, this]
      exact zal (by omega)
  · rintro acc g ⟨rfl, rfl⟩
    refine ⟨zbh (by rw [List.getElem?_append_left (zah x.top)]; exact x.top), zal (by simp), ?_⟩
    simp
    refine q (h.length + 3) h.length (h.length + 1) (h.length + 2) _ (by omega) (by omega) (by omega) (by omega) Fr.app ⟨by simp, by simp, by simp, by simp, by omega, by omega, by omega, by omega, by omega, by omega, by omega, by omega, by omega, by omega⟩
/-- News(..) -/
theorem init_sat (h211 : tbl 211 = F_News_init) {v0 v1 v2 : PV} {l0 l1 : List Str} {l2 : List Snd} (w : WL l0 l1 l2) (h3 : 3 ≤ h.length) (e0 : ∀ g, Fr [h.length] (h ++ [.obj "News" []]) g → biF .listOf [v0] g = .ok (.ref g.length) (g ++ [.lst (l0.map PV.str)])) (e1 : ∀ g, Fr [h.length] (h ++ [.obj "News" []]) g → biF .listOf [v1] g = .ok (.ref g.length) (g ++ [.lst (l1.map PV.str)])) (e2 : ∀ g, Fr [h.length] (h ++ [.obj "News" []]) g → biF .listOf [v2] g = .ok (.ref g.length) (g ++ [.lst (l2.map sv)]))
    (q : ∀ n a b c g, h.length ≤ n → h.length ≤ a → h.length ≤ b → h.length ≤ c → Fr [] h g → NW g n a b c l0 l1 l2 → Q (.ref n) g) : ((call tbl (k + 1) 211 [.ref h.length, v0, v1, v2] (h ++ [.obj "News" []])).Sat fun v g => (isNew v h.length g).Sat Q) := by
  rw [zao, h211]
  obtain ⟨H, hH⟩ : ∃ H, H = h ++ [PO.obj "News" []] := ⟨_, rfl⟩
  rw [← hH] at e0 e1 e2 ⊢
  have eH : H[h.length]? = some (.obj "News" []) := by rw [hH]; simp
  have lH : H.length = h.length + 1 := by rw [hH]; simp
  refine zbn rfl ?_
  simp only [F_News_init, zax, List.map, List.length, List.replicate, List.cons_append, List.nil_append]
  have sf : ∀ (f : Str) (v : PV) (fs : List (Str × PV)) (g : PH), g[h.length]? = some (.obj "News" fs) → fs.length < 100 → setfld "News" f (.ref h.length) v g = some (g.set h.length (.obj "News" (putO f v fs))) := fun f v fs g e hl => by simp [setfld, e, hl]
  rw [zad]
  have r0 := e0 H (Fr.refl _ _)
  simp [r0]
  obtain ⟨g1, hg1⟩ : ∃ g1, g1 = H ++ [PO.lst (l0.map PV.str)] := ⟨_, rfl⟩
  rw [← hg1]
  have p1 : g1[h.length]? = some (.obj "News" []) := by rw [hg1, List.getElem?_append_left (zah eH)]; exact eH
  refine ⟨_, sf "came" _ _ g1 p1 (by simp), ?_⟩
  obtain ⟨g2, hg2⟩ : ∃ g2, g2 = g1.set h.length (.obj "News" (putO "came" (.ref H.length) [])) := ⟨_, rfl⟩
  rw [← hg2]
  have l2' : g2.length = h.length + 2 := by rw [hg2, List.length_set, hg1, List.length_append, lH]; rfl
  have p2 : g2[h.length]? = some (.obj "News" [("came", .ref (h.length + 1))]) := by rw [hg2, List.getElem?_set_self (zah p1), lH]; rfl
  have a2 : g2[h.length + 1]? = some (.lst (l0.map PV.str)) := by rw [hg2, List.getElem?_set_ne (by omega), hg1, ← lH]; simp
  have f2 : Fr [h.length] H g2 := by rw [hg2]; exact (by rw [hg1]; exact Fr.app : Fr [h.length] H g1).trans (Fr.set (by simp))
  rw [zad]
  have r1 := e1 g2 f2
  simp [r1]
  obtain ⟨g3, hg3⟩ : ∃ g3, g3 = g2 ++ [PO.lst (l1.map PV.str)] := ⟨_, rfl⟩
  rw [← hg3]
  have p3 : g3[h.length]? = some (.obj "News" [("came", .ref (h.length + 1))]) := by rw [hg3, List.getElem?_append_left (zah p2)]; exact p2
  refine ⟨_, sf "went" _ _ g3 p3 (by simp), ?_⟩
  obtain ⟨g4, hg4⟩ : ∃ g4, g4 = g3.set h.length (.obj "News" (putO "went" (.ref g2.length) [("came", .ref (h.length + 1))])) := ⟨_, rfl⟩
  rw [← hg4]
  have l4' : g4.length = h.length + 3 := by rw [hg4, List.length_set, hg3, List.length_append, l2']; rfl
  have p4 : g4[h.length]? = some (.obj "News" [("came", .ref (h.length + 1)), ("went", .ref (h.length + 2))]) := by rw [hg4, List.getElem?_set_self (zah p3), l2']; rfl
  have a4 : g4[h.length + 1]? = some (.lst (l0.map PV.str)) := by rw [hg4, List.getElem?_set_ne (by omega), hg3, List.getElem?_append_left (zah a2)]; exact a2
  have b4 : g4[h.length + 2]? = some (.lst (l1.map PV.str)) := by rw [hg4, List.getElem?_set_ne (by omega), hg3, ← l2']; simp
  have f4 : Fr [h.length] H g4 := by rw [hg4]; exact f2.trans ((by rw [hg3]; exact Fr.app : Fr [h.length] g2 g3).trans (Fr.set (by simp)))
  try rw [x_one]
  have r2 := e2 g4 f4
  simp [r2]
  obtain ⟨g5, hg5⟩ : ∃ g5, g5 = g4 ++ [PO.lst (l2.map sv)] := ⟨_, rfl⟩
  rw [← hg5]
  have p5 : g5[h.length]? = some (.obj "News" [("came", .ref (h.length + 1)), ("went", .ref (h.length + 2))]) := by rw [hg5, List.getElem?_append_left (zah p4)]; exact p4
  refine ⟨_, sf "heard" _ _ g5 p5 (by simp), ?_⟩
  obtain ⟨g6, hg6⟩ : ∃ g6, g6 = g5.set h.length (.obj "News" (putO "heard" (.ref g4.length) [("came", .ref (h.length + 1)), ("went", .ref (h.length + 2))])) := ⟨_, rfl⟩
  rw [← hg6]
  have p6 : g6[h.length]? = some (.obj "News" [("came", .ref (h.length + 1)), ("went", .ref (h.length + 2)), ("heard", .ref (h.length + 3))]) := by rw [hg6, List.getElem?_set_self (zah p5), l4']; rfl
  have a6 : g6[h.length + 1]? = some (.lst (l0.map PV.str)) := by rw [hg6, List.getElem?_set_ne (by omega), hg5, List.getElem?_append_left (zah a4)]; exact a4
  have b6 : g6[h.length + 2]? = some (.lst (l1.map PV.str)) := by rw [hg6, List.getElem?_set_ne (by omega), hg5, List.getElem?_append_left (zah b4)]; exact b4
  have c6 : g6[h.length + 3]? = some (.lst (l2.map sv)) := by rw [hg6, List.getElem?_set_ne (by omega), hg5, ← l4']; simp
  have f6 : Fr [h.length] H g6 := by rw [hg6]; exact f4.trans ((by rw [hg5]; exact Fr.app : Fr [h.length] g4 g5).trans (Fr.set (by simp)))
  have f0 : Fr [] h g6 := ⟨by have := f6.len; omega, fun m _ hm => by
    rw [f6.at_ m (by simp; omega) (by omega), hH, List.getElem?_append_left hm]⟩
  show (isNew .non h.length g6).Sat Q
  exact q _ _ _ _ g6 (by omega) (by omega) (by omega) (by omega) f0 ⟨p6, a6, b6, c6, by omega, by omega, by omega, by omega⟩
/-- the lists that an instance is made of, as lists or tuples -/
theorem lst_refN {m : Nat} {l : List PV} (hm : m < h.length) (e : h[m]? = some (.lst l)) : ∀ g, Fr [h.length] (h ++ [.obj "News" []]) g → biF .listOf [.ref m] g = .ok (.ref g.length) (g ++ [.lst l]) := fun g f => by
  have : g[m]? = some (.lst l) := f.some (by simp; omega) (by rw [List.getElem?_append_left hm]; exact e)
  simp only [biF, biList, this]
theorem lst_tupN {l : List PV} : ∀ g, Fr [h.length] (h ++ [.obj "News" []]) g → biF .listOf [.tup l] g = .ok (.ref g.length) (g ++ [.lst l]) := fun g f => rfl
/-- == of two news -/
theorem eqN (h460 : tbl 460 = F_News_eq) {n a b c n' a' b' c' : Nat} {l0 l1 l0' l1' : List Str} {l2 l2' : List Snd} (x : NW h n a b c l0 l1 l2) (x' : NW h n' a' b' c' l0' l1' l2') (w : WL l0 l1 l2) (w' : WL l0' l1' l2') : call tbl (k + 1) 460 [.ref n, .ref n'] h = .ok (.bl (decide (l0 = l0') && (decide (l1 = l1') && decide (l2 = l2')))) h := by
  refine R.Sat.eq ?_
  rw [zao, h460]
  refine zbn rfl ?_
  simp only [F_News_eq, zax, List.map, List.length, List.replicate, List.cons_append, List.nil_append]
  have ic : biF .isC [.ref n', .cls "News"] h = .ok (.bl true) h := by
    have : isInsP "News" h (.ref n') = some true := by
      have ht : tyOf h (.ref n') = none := by simp only [tyOf, x'.top]
      simp only [isInsP, ht, x'.top, if_true]
    simp only [biF, biIsC, this]
  have fl : ∀ (m : Nat) (f : Str) (fs : List (Str × PV)) (v : PV), h[m]? = some (.obj "News" fs) → fs.lookup f = some v → fldop "News" f (.ref m) h = .ok v h := fun m f fs v e1 e2 => by simp only [fldop, e1, if_true, e2, ofO]
  have q0 := eq_strs x.ha x'.ha (fun y hy => (w.o0 y hy).ok) (fun y hy => (w'.o0 y hy).ok)
  have q1 := eq_strs x.hb x'.hb (fun y hy => (w.o1 y hy).ok) (fun y hy => (w'.o1 y hy).ok)
  have q2 := eq_snds x.hc x'.hc w.o2 w'.o2
  rw [zad]
  simp [ic, fl n "came" _ _ x.top rfl, fl n' "came" _ _ x'.top rfl, fl n "went" _ _ x.top rfl, fl n' "went" _ _ x'.top rfl, fl n "heard" _ _ x.top rfl, fl n' "heard" _ _ x'.top rfl, q0, q1, q2]
  by_cases h0 : l0 = l0' <;> by_cases h1 : l1 = l1' <;> by_cases h2 : l2 = l2' <;> simp [h0, h1, h2]
/-- == of news and any other thing -/
theorem eqX (h460 : tbl 460 = F_News_eq) {n : Nat} {v : PV} (e : isInsP "News" h v = some false) : call tbl (k + 1) 460 [.ref n, v] h = .ok (.bl false) h := by
  refine R.Sat.eq ?_
  rw [zao, h460]
  refine zbn rfl ?_
  simp only [F_News_eq, zax, List.map, List.length, List.replicate, List.cons_append, List.nil_append]
  have ic : biF .isC [v, .cls "News"] h = .ok (.bl false) h := by simp only [biF, biIsC, e]
  rw [zad]
  simp [ic]
theorem oeqN {C : Calls} {ρ : Env} {ne : Bool} {e1 e2 : E} {h1 h2 : PH} {n a b c : Nat} {v : PV} {l0 l1 : List Str} {l2 : List Snd} {r bb : Bool} (g1 : evG C e1 false ρ h = .ok (.ref n) h1) (g2 : evG C e2 false ρ h1 = .ok v h2) (x : NW h2 n a b c l0 l1 l2) (hi : isInsP "News" h2 v = some bb) (hc : C 460 [.ref n, v] h2 = .ok (.bl r) h2) : evG C (.oeq "News" 460 ne e1 e2) false ρ h = .ok (.bl (if ne then !r else r)) h2 := by
  have ib : insB "News" "__eq__" h2 (.ref n) = true := by
    simp only [insB, x.top]
    rfl
  rw [evG, g1]
  show fin false ((evG C e2 false ρ h1).bind _) = _
  rw [g2]
  show (if (insB "News" "__eq__" h2 (.ref n) && (isInsP "News" h2 v).isSome) = true then _ else _) = _
  rw [ib, hi]
  show ((C 460 [.ref n, v] h2).calm.bind _) = _
  rw [hc]
  rfl
end
end Sb
namespace Sb
open PySem
def labels : List Str := ["a", "b", "ab", "zz", "abcdefgh"]
theorem labels_ok : ∀ x ∈ labels, NmOk x := fun x hx => by
  have h1 : ∀ x ∈ labels, strOkP x = true ∧ x.length ≤ 8 := by decide +kernel
  exact ⟨(h1 x hx).1, (h1 x hx).2⟩
section
variable {tbl : Nat → Fn} {k B : Nat} {h : PH} {Q : PV → PH → Prop}
theorem pick58 (h5 : tbl 5 = F_law_mix) (h6 : tbl 6 = F_law_draw) (st : St h 2 0 1 B) (hB : B + 8 ≤ 2 ^ 20) {L : List PV} {n : Nat} (e : h[n]? = some (.lst L)) (n3 : 3 ≤ n) {m : Int} (hm : m = (L.length : Nat)) (hp : 0 < L.length) (hl : L.length ≤ 1000) (q : ∀ x g, x ∈ L → St g 2 0 1 (B + 8) → Fr [2, 0] h g → g.length = h.length → Q x g) :
    ((call tbl (k + 2) 6 [.ref 2, .int m] h).Sat fun r g => (idxop (.ref n) r g).Sat Q) := by
  refine zbc h5 h6 st hB (by omega) (by omega) fun r g r0 r1 s' f l' => ?_
  obtain ⟨x, hx⟩ : ∃ x, L[r.toNat]? = some x := ⟨_, List.getElem?_eq_getElem (by omega)⟩
  rw [zbb (f.some (by simp only [List.mem_cons, List.not_mem_nil, or_false, not_or]; omega) e) (at_pos r0 hx)]
  exact q x g (List.mem_of_getElem? hx) s' f l'
theorem part_sat (h5 : tbl 5 = F_law_mix) (h6 : tbl 6 = F_law_draw) (h9 : tbl 9 = F_law_lowest) (h166 : tbl 166 = F_law_part_2) (st : St h 2 0 1 B) (hB : B + 24 ≤ 2 ^ 20) (q : ∀ p g, Qs 44 p → St g 2 0 1 (B + 24) → Fr [2, 0] h g → Q (fq p) g) : (call tbl (k + 3) 166 [.ref 2] h).Sat Q := by
  rw [zao, h166]
  refine zbn rfl ?_
  simp only [F_law_part_2, zax, List.map, List.length, List.replicate, List.cons_append, List.nil_append]
  have bp : ∀ g : PH, binop .Pow (.int 10) (.int 12) g = .ok (.int (10 ^ 12)) g := fun g => b_pow (by decide +kernel)
  have hl : 3 ≤ h.length := by
    obtain ⟨a, b, c⟩ := st.lt
    omega
  rw [zad]
  simp [bp, zap]
  refine pick58 h5 h6 (k := k) (st.app (t := [PO.lst [.int 4, .int 9, .int 999999999999]])) (by omega) (L := [.int 4, .int 9, .int 999999999999]) (by simp) hl rfl (by simp) (by simp) fun x g hx s1 f1 l1 => ?_
  have hs : ∃ s : Int, x = .int s ∧ 4 ≤ s ∧ s ≤ 999999999999 := by
    simp at hx
    rcases hx with rfl | rfl | rfl
    · exact ⟨_, rfl, by omega, by omega⟩
    · exact ⟨_, rfl, by omega, by omega⟩
    · exact ⟨_, rfl, by omega, by omega⟩
  obtain ⟨s, rfl, s4, s9⟩ := hs
  have F1 : Fr [2, 0] h g := (Fr.app (S := [2, 0])).trans f1
  try rw [x_one]
  have bm : ∀ g : PH, binop .Mult (.int 2) (.int s) g = .ok (.int (2 * s)) g := fun g => b_mul (mul_ok (a := 2) (b := 41) (by decide) (by omega) (by decide) (by decide) (by decide))
  simp [bm]
  refine zbc h5 h6 (k := k) s1 (by omega) (by omega) (by omega) fun r g2 r0 r1 s2 f2 _ => ?_
  simp
  refine zbc h5 h6 (k := k) s2 (by omega) (by omega) (by omega) fun u g3 u0 u1 s3 f3 _ => ?_
  simp
  have hb : 1 + u ≠ 0 := by omega
  rw [lowq h9 (k := k + 1) hb (Nat.lt_of_lt_of_le (show (1 + u).natAbs < 2 ^ 44 by omega) (Nat.pow_le_pow_right (by decide) (by decide)))]
  exact q _ _ (Qs.divInt hb (by omega) (by omega)) s3 (F1.trans (f2.trans f3))
theorem nm_comp {ρ : Env} {p : Nat} (h5 : tbl 5 = F_law_mix) (h6 : tbl 6 = F_law_draw) (st : St h 2 0 1 B) (hB : B + 48 ≤ 2 ^ 20) (hv0 : ρ.get 0 = some (.ref 2)) (hp : h[p]? = some (.lst (labels.map PV.str))) (p3 : 3 ≤ p) (hset : ∀ v, ∃ ρ1, zbp (wipeP ρ [5]) [5] .one v = some ρ1 ∧ ρ1.get 0 = some (.ref 2) ∧ ρ1.get 1 = some (.ref p))
    (q : ∀ (n : Nat) (l : List Str) (g : PH), (∀ x ∈ l, NmOk x) → l.length ≤ 4 → h.length ≤ n → g[n]? = some (.lst (l.map PV.str)) → St g 2 0 1 (B + 48) → Fr [2, 0] h g → Q (.ref n) g) :
    (evG (call tbl (k + 2)) (.comp (.idx (.var 1) (.call 6 [(.var 0), (.lit (.int 5))] [])) [5] .one .range [(.call 6 [(.var 0), (.lit (.int 5))] [])] none [5]) false ρ h).Sat Q := by
  refine v_comp ?_
  simp only [gs_cons, gs_nil, g_call, g_var, g_lit, fin_f, hv0, za6, R.bind_ok, zai, zan, List.append_nil]
  refine zbc h5 h6 (k := k) st (by omega) (by decide) (by decide) fun r g r0 r1 s1 f1 _ => ?_
  try simp only [zan]
  have wr : walkF .range [.int r] g = some (rangeP r, []) := by
    show (if r < 2 ^ 62 ∧ -(2 ^ 62) ≤ r then _ else _) = _
    rw [if_pos (by omega)]
  refine ⟨rangeP r, [], wr, fun i acc g' => ∃ l : List Str, acc = l.map PV.str ∧ l.length = i ∧ (∀ x ∈ l, NmOk x) ∧ St g' 2 0 1 (B + 8 + 8 * i) ∧ Fr [2, 0] h g', ⟨[], rfl, rfl, by simp, s1, f1⟩, ?_, ?_⟩
  · rintro i y acc g' hy ⟨l, rfl, rfl, ol, s2, f2⟩
    have hi : l.length < 4 := by
      have h1 := (List.getElem?_eq_some_iff.mp hy).1
      have h2 : (rangeP r).length = r.toNat := by simp [rangeP]
      omega
    obtain ⟨ρ1, e1, e2, e3⟩ := hset y
    refine ⟨zbi _, ρ1, e1, ?_⟩
    simp [e2, e3]
    have hp' := f2.some (by simp only [List.mem_cons, List.not_mem_nil, or_false, not_or]; omega) hp
    refine pick58 h5 h6 (k := k) s2 (by omega) hp' p3 rfl (by decide) (by decide) fun x g3 hx s3 f3 _ => ?_
    obtain ⟨z, hz, rfl⟩ := List.mem_map.mp hx
    refine ⟨zal (by omega), l ++ [z], by simp, by simp, fun x hx => ?_, s3.up (by omega), f2.trans f3⟩
    rcases List.mem_append.mp hx with h1 | h1
    · exact ol x h1
    · rw [List.mem_singleton.mp h1]
      exact labels_ok z hz
  · rintro acc g' ⟨l, rfl, el, ol, s2, f2⟩
    have hl : l.length ≤ 4 := by
      have h2 : (rangeP r).length = r.toNat := by simp [rangeP]
      omega
    refine ⟨zbi _, zal (by rw [List.length_map]; omega), ?_⟩
    exact q _ l _ ol hl f2.len (by simp) ((s2.app).up (by omega)) (f2.trans Fr.app)
/-- what stands ahead of the i-th sound -/
def SI (p a b m B : Nat) (g3 : PH) (i : Nat) (ρ : Env) (g : PH) : Prop := ∃ (o5 o6 : Option PV) (l : List Snd), ρ = [some (.ref 2), some (.ref p), some (.ref a), some (.ref b), some (.ref m), o5, o6] ∧ g[m]? = some (.lst (l.map sv)) ∧ l.length = i ∧ (∀ s ∈ l, SndOk s) ∧ St g 2 0 1 (B + 104 + 80 * i) ∧ Fr [2, 0, m] g3 g
theorem lists_sat (h5 : tbl 5 = F_law_mix) (h6 : tbl 6 = F_law_draw) (h9 : tbl 9 = F_law_lowest) (h166 : tbl 166 = F_law_part_2) (h167 : tbl 167 = F_law_lists) (st : St h 2 0 1 B) (hB : B + 500 ≤ 2 ^ 20)
    (q : ∀ n a b c l0 l1 l2 g, h.length ≤ n → h.length ≤ a → h.length ≤ b → h.length ≤ c → L3s g n a b c l0 l1 l2 → WL l0 l1 l2 → l0.length ≤ 4 → l1.length ≤ 4 → l2.length ≤ 3 → St g 2 0 1 (B + 500) → Fr [2, 0] h g → Q (.ref n) g) : (call tbl (k + 4) 167 [.ref 2] h).Sat Q := by
  rw [zao, h167]
  refine zbn rfl ?_
  simp only [F_law_lists, zax, List.map, List.length, List.replicate, List.cons_append, List.nil_append]
  have hl : 3 ≤ h.length := by
    obtain ⟨a, b, c⟩ := st.lt
    omega
  rw [zad]
  simp [zap]
  obtain ⟨g0, hg0⟩ : ∃ g0, g0 = h ++ [PO.lst (labels.map PV.str)] := ⟨_, rfl⟩
  rw [show h ++ [PO.lst [PV.str "a", .str "b", .str "ab", .str "zz", .str "abcdefgh"]] = g0 from hg0.symm]
  have s0 : St g0 2 0 1 B := by rw [hg0]; exact st.app
  have f0 : Fr [2, 0] h g0 := by rw [hg0]; exact Fr.app
  have e0 : g0[h.length]? = some (.lst (labels.map PV.str)) := by rw [hg0]; simp
  have l0' : g0.length = h.length + 1 := by rw [hg0]; simp
  rw [zad]
  simp only [x_set]
  refine nm_comp h5 h6 (k := k + 1) s0 (by omega) rfl e0 hl (fun v => ⟨_, rfl, rfl, rfl⟩) fun a l0 g1 o0 k0 ha ea s1 f1 => ?_
  simp only [List.set]
  have e1 := f1.some (n := h.length) (by simp only [List.mem_cons, List.not_mem_nil, or_false, not_or]; omega) e0
  rw [zad]
  simp only [x_set]
  refine nm_comp h5 h6 (k := k + 1) s1 (by omega) rfl e1 hl (fun v => ⟨_, rfl, rfl, rfl⟩) fun b l1 g2 o1 k1 hb eb s2 f2 => ?_
  simp only [List.set]
  have e2 := f2.some (n := h.length) (by simp only [List.mem_cons, List.not_mem_nil, or_false, not_or]; omega) e1
  have lb := f1.len
  have lc := f2.len
  have la := (List.getElem?_eq_some_iff.mp ea).1
  have lbb := (List.getElem?_eq_some_iff.mp eb).1
  have ea2 := f2.some (n := a) (by simp only [List.mem_cons, List.not_mem_nil, or_false, not_or]; omega) ea
  rw [zad]
  simp [zap]
  obtain ⟨g3, hg3⟩ : ∃ g3, g3 = g2 ++ [PO.lst []] := ⟨_, rfl⟩
  rw [← hg3]
  have s3 : St g3 2 0 1 (B + 48 + 48) := by rw [hg3]; exact s2.app
  have f3 : Fr [] g2 g3 := by rw [hg3]; exact Fr.app
  have ec : g3[g2.length]? = some (.lst []) := by rw [hg3]; simp
  have e3 := f3.some (n := h.length) (by simp) e2
  have ea3 := f3.some (n := a) (by simp) ea2
  have eb3 := f3.some (n := b) (by simp) eb
  have l3' : g3.length = g2.length + 1 := by rw [hg3]; simp
  rw [zad]
  refine x_for ?_
  simp only [gs_cons, gs_nil, g_call, g_var, g_lit, fin_f, get0, getS, za6, R.bind_ok, zai, zan, List.append_nil]
  refine zbc h5 h6 (k := k + 1) s3 (by omega) (by decide) (by decide) fun r g4 r0 r1 s4 f4 _ => ?_
  try simp only [zan]
  have wr : walkF .range [.int r] g4 = some (rangeP r, []) := by
    show (if r < 2 ^ 62 ∧ -(2 ^ 62) ≤ r then _ else _) = _
    rw [if_pos (by omega)]
  refine ⟨rangeP r, [], wr, SI h.length a b g2.length B g3, ⟨none, none, [], rfl, f4.some (by simp only [List.mem_cons, List.not_mem_nil, or_false, not_or]; omega) ec, rfl, by simp, s4, f4.mono (by simp)⟩, ?_, ?_⟩
  · rintro i y ρ g hy ⟨o5, o6, l, rfl, el, rfl, ol, s5, f5⟩
    have hi : l.length < 3 := by
      have h1 := (List.getElem?_eq_some_iff.mp hy).1
      have h2 : (rangeP r).length = r.toNat := by simp [rangeP]
      omega
    refine ⟨zbi _, _, rfl, ?_⟩
    simp only [List.set]
    rw [zad]
    try simp
    refine part_sat h5 h6 h9 h166 (k := k) s5 (by omega) fun p1 g6 q1 s6 f6 => ?_
    try simp
    refine part_sat h5 h6 h9 h166 (k := k) s6 (by omega) fun p2 g7 q2 s7 f7 => ?_
    try simp
    have F7 : Fr [2, 0] g g7 := f6.trans f7
    have el7 := F7.some (n := g2.length) (by simp only [List.mem_cons, List.not_mem_nil, or_false, not_or]; omega) el
    have e7 := F7.some (n := h.length) (by simp only [List.mem_cons, List.not_mem_nil, or_false, not_or]; omega) (f5.some (n := h.length) (by simp only [List.mem_cons, List.not_mem_nil, or_false, not_or]; omega) e3)
    simp [ty_ref el7, MT.ty]
    refine pick58 h5 h6 (k := k + 1) s7 (by omega) e7 hl rfl (by decide) (by decide) fun x g8 hx s8 f8 _ => ?_
    obtain ⟨z, hz, rfl⟩ := List.mem_map.mp hx
    simp [zap]
    obtain ⟨L, hL⟩ : ∃ L : List PV, L = [ldv (some (p1, p2)), .non] := ⟨_, rfl⟩
    rw [show [PV.tup [fq p1, fq p2], PV.non] = L from hL.symm]
    refine zbc h5 h6 (k := k + 1) (s8.app (t := [PO.lst L])) (by omega) (by decide) (by decide) fun u g9 u0 u1 s9 f9 _ => ?_
    have b1 : ∀ (b : Bool) (g : PH), biF .int1 [.bl b] g = .ok (.int (if b then 1 else 0)) g := fun _ _ => rfl
    simp [b1]
    have eL := f9.some (n := g8.length) (by have := s8.lt; simp only [List.mem_cons, List.not_mem_nil, or_false, not_or]; omega) (show (g8 ++ [PO.lst L])[g8.length]? = some (.lst L) by simp)
    obtain ⟨ld, hld, ix⟩ : ∃ ld : Option (Rat × Rat), (∀ m, ld = some m → Qs 44 m.1 ∧ Qs 44 m.2) ∧ idxop (.ref g8.length) (.int (if u = 0 then 1 else 0)) g9 = .ok (ldv ld) g9 := by
      by_cases hu : u = 0
      · rw [if_pos hu]
        exact ⟨none, fun m e => (by cases e), zbb eL (at_nat (n := 1) (by rw [hL]; rfl))⟩
      · rw [if_neg hu]
        exact ⟨some (p1, p2), fun m e => (by cases e; exact ⟨q1, q2⟩), zbb eL (at_nat (n := 0) (by rw [hL]; rfl))⟩
    simp [ix]
    have F9 : Fr [2, 0] g7 g9 := f8.trans ((Fr.app (S := [2, 0])).trans f9)
    have el9 := F9.some (n := g2.length) (by simp only [List.mem_cons, List.not_mem_nil, or_false, not_or]; omega) el7
    rw [mt_append el9 (by rw [List.length_map]; omega)]
    try simp
    refine ⟨_, _, l ++ [(z, ld)], rfl, ?_, by simp, fun s hs => ?_, ?_, ?_⟩
    · rw [List.getElem?_set_self (zah el9)]
      simp [sv]
    · rcases List.mem_append.mp hs with h1 | h1
      · exact ol s h1
      · rw [List.mem_singleton.mp h1]
        exact ⟨labels_ok z hz, hld⟩
    · exact ((s9.up (by omega)).frame (S := [g2.length]) (Fr.set (by simp)) (by simp; omega) (by simp; omega) (by simp; omega))
    · exact f5.trans ((F7.trans F9).mono (by simp) |>.trans (Fr.set (by simp)))
  · rintro ρ g ⟨o5, o6, l, rfl, el, eln, ol, s5, f5⟩
    have hl3 : l.length ≤ 3 := by
      have h2 : (rangeP r).length = r.toNat := by simp [rangeP]
      omega
    refine ⟨zbi _, ?_⟩
    rw [x_one]
    simp [zap]
    have fa := f5.some (n := a) (by simp only [List.mem_cons, List.not_mem_nil, or_false, not_or]; omega) ea3
    have fb := f5.some (n := b) (by simp only [List.mem_cons, List.not_mem_nil, or_false, not_or]; omega) eb3
    have lg := f5.len
    refine q g.length a b g2.length l0 l1 l _ (by omega) (by omega) (by omega) (by omega) ⟨by simp, ?_, ?_, ?_, by omega, by omega, by omega, by omega, by omega, by omega, by omega, by omega, by omega, by omega⟩ ⟨o0, o1, ol, by omega, by omega, by omega⟩ k0 k1 hl3 ((s5.up (by omega)).app) ?_
    · rw [List.getElem?_append_left (zah fa)]; exact fa
    · rw [List.getElem?_append_left (zah fb)]; exact fb
    · rw [List.getElem?_append_left (zah el)]; exact el
    · refine ⟨by simp; omega, fun m hm hlt => ?_⟩
      rw [List.getElem?_append_left (by omega), f5.at_ m (by simp only [List.mem_cons, List.not_mem_nil, or_false, not_or] at hm ⊢; omega) (by omega), f3.at_ m (by simp) (by omega), f2.at_ m hm (by omega), f1.at_ m hm (by omega), f0.at_ m hm hlt]
end
end Sb
namespace Sb
open PySem
theorem TX_len {l0 l1 : List Str} {l2 : List Snd} (w : WL l0 l1 l2) : (∀ x ∈ TX l0 l1 l2, x.length ≤ 80) ∧ (TX l0 l1 l2).length ≤ 300 := by
  constructor
  · intro x hx
    unfold TX at hx
    rcases List.mem_append.mp hx with h | h
    · rcases List.mem_append.mp h with h | h
      · obtain ⟨y, hy, rfl⟩ := List.mem_map.mp h
        have := (w.o0 y hy).len
        rw [zbq, len_plus]
        omega
      · obtain ⟨y, hy, rfl⟩ := List.mem_map.mp h
        have := (w.o1 y hy).len
        rw [zbq, len_minus]
        omega
    · obtain ⟨y, hy, rfl⟩ := List.mem_map.mp h
      have := sT_len (w.o2 y hy)
      omega
  · have := w.k0
    have := w.k1
    have := w.k2
    simp [TX]
    omega
section
variable {tbl : Nat → Fn} {k B : Nat} {h : PH} {Q : PV → PH → Prop} {n a b c : Nat} {l0 l1 : List Str} {l2 : List Snd}
theorem fldN {m : Nat} {f : Str} {fs : List (Str × PV)} {v : PV} (e1 : h[m]? = some (.obj "News" fs)) (e2 : fs.lookup f = some v) : fldop "News" f (.ref m) h = .ok v h := by simp only [fldop, e1, if_true, e2, ofO]
theorem insN {m : Str} (x : NW h n a b c l0 l1 l2) (hm : (m == "came" || (m == "went" || m == "heard")) = false) : insB "News" m h (.ref n) = true := by
  have hl : List.lookup m [("came", PV.ref a), ("went", .ref b), ("heard", .ref c)] = none := by
    obtain ⟨h1, h2⟩ := Bool.or_eq_false_iff.mp hm
    obtain ⟨h2, h3⟩ := Bool.or_eq_false_iff.mp h2
    simp only [List.lookup, h1, h2, h3]
  simp only [insB, x.top, hl]
  rfl
theorem len_sat (h452 : tbl 452 = F_News_len) (x : NW h n a b c l0 l1 l2) (w : WL l0 l1 l2) (q : ∀ t, Q (.int ((l0.length + l1.length + l2.length : Nat) : Int)) (h ++ t)) : (call tbl (k + 1) 452 [.ref n] h).Sat Q := by
  rw [zao, h452]
  refine zbn rfl ?_
  simp only [F_News_len, zax, List.map, List.length, List.replicate, List.cons_append, List.nil_append]
  have := w.k0
  have := w.k1
  have := w.k2
  rw [x_one]
  have r0 := fldN x.top (f := "came") rfl
  have r1 := fldN x.top (f := "went") rfl
  simp [r0, r1]
  rw [b_addL x.ha x.hb (by simp; omega)]
  obtain ⟨g, hg⟩ : ∃ g, g = h ++ [PO.lst (l0.map PV.str ++ l1.map PV.str)] := ⟨_, rfl⟩
  rw [← hg]
  have xg : NW g n a b c l0 l1 l2 := by rw [hg]; exact x.app
  have eg : g[h.length]? = some (.lst (l0.map PV.str ++ l1.map PV.str)) := by rw [hg]; simp
  have r2 := fldN xg.top (f := "heard") rfl
  simp [r2]
  rw [b_addL eg xg.hc (by simp; omega)]
  have bl : ∀ (m : Nat) (l : List PV) (g : PH), g[m]? = some (.lst l) → biF .len [.ref m] g = .ok (.int l.length) g := fun m l g e => by simp only [biF, biLen, e]
  simp
  rw [bl _ (l0.map PV.str ++ l1.map PV.str ++ l2.map sv) _ (by simp)]
  simp only [List.length_append, List.length_map]
  have z := q ([PO.lst (l0.map PV.str ++ l1.map PV.str)] ++ [PO.lst (l0.map PV.str ++ l1.map PV.str ++ l2.map sv)])
  rw [← List.append_assoc, ← hg] at z
  simpa using z
/-- "+" or "-" ahead of each name -/
theorem sign_comp {C : Calls} {ρ : Env} {its : List E} {s : Str} {m : Nat} {l : List Str} (hs : s.length = 1) (e1 : evGs C its ρ h = .ok [.ref m] h) (e : h[m]? = some (.lst (l.map PV.str))) (ol : ∀ x ∈ l, NmOk x) (hl : l.length ≤ 100) (hset : ∀ v, ∃ ρ1, zbp (wipeP ρ [2]) [2] .one v = some ρ1 ∧ ρ1.get 2 = some v)
    (q : Q (.ref h.length) (h ++ [.lst ((l.map fun x => s ++ x).map PV.str)])) : (evG C (.comp (.bin .Add (.lit (.str s)) (.var 2)) [2] .one .seq its none [2]) false ρ h).Sat Q := by
  refine v_filt l PV.str (fun x => .str (s ++ x)) (fun _ => true) e1 (walk_ref e) (zbh e) (by omega) (fun x hx => ?_) ?_
  · obtain ⟨ρ1, e1, e2⟩ := hset (.str x)
    refine ⟨ρ1, e1, by simp, fun _ => ?_⟩
    have := (ol x hx).len
    simp [e2]
    exact addT (by omega)
  · rw [filter_true, show l.map (fun x => PV.str (s ++ x)) = (l.map fun x => s ++ x).map PV.str by rw [List.map_map]; rfl]
    exact q
theorem str_sat (h453 : tbl 453 = F_number_written) (h454 : tbl 454 = F_move_text) (h455 : tbl 455 = F_heard_text) (h456 : tbl 456 = F_News_str) (x : NW h n a b c l0 l1 l2) (w : WL l0 l1 l2) (q : ∀ t, Q (.str (Txt.join " " (TX l0 l1 l2))) (h ++ t)) : (call tbl (k + 4) 456 [.ref n] h).Sat Q := by
  rw [zao, h456]
  refine zbn rfl ?_
  simp only [F_News_str, zax, List.map, List.length, List.replicate, List.cons_append, List.nil_append]
  have := w.k0
  have := w.k1
  have := w.k2
  rw [zad]
  simp only [x_set, g_bin, fin_f, zai]
  refine sign_comp (s := "+") (m := a) len_plus (by simp [fldN x.top (f := "came") rfl]) x.ha w.o0 w.k0 (fun v => ⟨_, rfl, rfl⟩) ?_
  obtain ⟨g1, hg1⟩ : ∃ g, g = h ++ [PO.lst ((l0.map fun x => ("+" : Str) ++ x).map PV.str)] := ⟨_, rfl⟩
  rw [← hg1]
  have x1 : NW g1 n a b c l0 l1 l2 := by rw [hg1]; exact x.app
  have e1 : g1[h.length]? = some (.lst ((l0.map fun x => ("+" : Str) ++ x).map PV.str)) := by rw [hg1]; simp
  refine sign_comp (s := "-") (m := b) len_minus (by simp [fldN x1.top (f := "went") rfl]) x1.hb w.o1 w.k1 (fun v => ⟨_, rfl, rfl⟩) ?_
  obtain ⟨g2, hg2⟩ : ∃ g, g = g1 ++ [PO.lst ((l1.map fun x => ("-" : Str) ++ x).map PV.str)] := ⟨_, rfl⟩
  rw [← hg2]
  have x2 : NW g2 n a b c l0 l1 l2 := by rw [hg2]; exact x1.app
  have e2 : g2[h.length]? = some (.lst ((l0.map fun x => ("+" : Str) ++ x).map PV.str)) := by rw [hg2, List.getElem?_append_left (zah e1)]; exact e1
  have e2' : g2[g1.length]? = some (.lst ((l1.map fun x => ("-" : Str) ++ x).map PV.str)) := by rw [hg2]; simp
  rw [b_addL e2 e2' (by simp; omega)]
  simp only [zan, List.set]
  obtain ⟨g3, hg3⟩ : ∃ g, g = g2 ++ [PO.lst ((l0.map fun x => ("+" : Str) ++ x).map PV.str ++ (l1.map fun x => ("-" : Str) ++ x).map PV.str)] := ⟨_, rfl⟩
  rw [← hg3]
  have x3 : NW g3 n a b c l0 l1 l2 := by rw [hg3]; exact x2.app
  have e3 : g3[g2.length]? = some (.lst (((l0.map fun x => ("+" : Str) ++ x) ++ (l1.map fun x => ("-" : Str) ++ x)).map PV.str)) := by rw [hg3, List.map_append]; simp
  obtain ⟨t3, ht3⟩ : ∃ t, g3 = h ++ t := ⟨_, by rw [hg3, hg2, hg1, List.append_assoc, List.append_assoc]⟩
  rw [x_one]
  simp only [x_ret, g_mth, g_lit, fin_f, R.bind_ok, zai, zan]
  have tj : tyOf g3 (.str " ") = some MT.join.ty := rfl
  rw [if_pos tj]
  simp only [gs_cons, gs_nil, g_bin, g_var, fin_f, zai, zan, R.bind_ok, get0, getS, za6]
  refine v_compE (l := [.ref c]) (h1 := g3) (by simp [fldN x3.top (f := "heard") rfl]) (walk_ref x3.hc) (fun i acc g => acc = ((l2.take i).map sT).map PV.str ∧ ∃ t, g = g3 ++ t) ⟨by simp, [], by simp⟩ ?_ ?_
  · rintro i y acc g hy ⟨rfl, t, rfl⟩
    rw [List.getElem?_map, Option.map_eq_some_iff] at hy
    obtain ⟨s, hs, rfl⟩ := hy
    have hi := (List.getElem?_eq_some_iff.mp hs).1
    refine ⟨zbh (by rw [List.getElem?_append_left (zah x3.hc)]; exact x3.hc), _, rfl, ?_⟩
    simp [wipeP, setAll]
    refine heard_text_sat h453 h454 h455 (k := k) (w.o2 s (List.mem_of_getElem? hs)) fun t' => ?_
    refine ⟨zal (by omega), ?_, _, List.append_assoc _ _ _⟩
    rw [List.take_add_one, List.getElem?_map, hs]
    simp
  · rintro acc g ⟨rfl, t, rfl⟩
    refine ⟨zbh (by rw [List.getElem?_append_left (zah x3.hc)]; exact x3.hc), zal (by simp; omega), ?_⟩
    simp only [List.length_map, List.take_length]
    have e4 : (g3 ++ t ++ [PO.lst ((l2.map sT).map PV.str)])[g2.length]? = some (.lst (((l0.map fun x => ("+" : Str) ++ x) ++ (l1.map fun x => ("-" : Str) ++ x)).map PV.str)) := by rw [List.append_assoc, List.getElem?_append_left (zah e3)]; exact e3
    rw [b_addL e4 (n := (g3 ++ t).length) (k := (l2.map sT).map PV.str) (by simp) (by simp; omega)]
    simp only [zan]
    have w2 := TX_len w
    rw [mt_join (xs := TX l0 l1 l2) (B := 80) (by rw [← List.map_append]; simp [TX]) w2.1 (by rw [len_blank]; omega)]
    rw [ht3]
    simp only [zan, List.append_assoc]
    exact q _
/-- the law's text of a lead -/
theorem lead_eq {C : Calls} {ρ : Env} {i : Nat} {l : Option (Rat × Rat)} (hC : ∀ (q : Rat) (h : PH), Qs 44 q → C 457 [fq q] h = .ok (.str (numT q)) h) (ok : ∀ m, l = some m → Qs 44 m.1 ∧ Qs 44 m.2) (hv : ρ.get i = some (ldv l)) :
    evG C (.ite (.cmp .Is (.var i) (.lit .non)) (.lit (.str "none")) (.bin .Add (.bin .Add (.call 457 [(.idx (.var i) (.lit (.int 0)))] []) (.lit (.str ","))) (.call 457 [(.idx (.var i) (.lit (.int 1)))] []))) false ρ h = .ok (.str (leadT l)) h := by
  refine R.Sat.eq ?_
  cases l with
  | none =>
    have z : isNonP (ldv none) = true := rfl
    simp [hv, z, leadT]
  | some m =>
    obtain ⟨o1, o2⟩ := ok m rfl
    have z : isNonP (ldv (some m)) = false := rfl
    have i0 : ∀ h : PH, idxop (ldv (some m)) (.int 0) h = .ok (fq m.1) h := fun _ => rfl
    have i1 : ∀ h : PH, idxop (ldv (some m)) (.int 1) h = .ok (fq m.2) h := fun _ => rfl
    have n1 := numT_len o1
    have n2 := numT_len o2
    simp [hv, z, i0, i1, hC _ _ o1]
    rw [addT (by rw [len_comma]; omega)]
    simp [hC _ _ o2]
    rw [addT (by rw [zbq, len_comma]; omega)]
    simp [leadT]
theorem text_sat (h457 : tbl 457 = F_law_number_3) (h458 : tbl 458 = F_law_text) (x : L3s h n a b c l0 l1 l2) (w : WL l0 l1 l2) (q : ∀ g, Fr [] h g → Q (.str (Txt.join " " (TX l0 l1 l2))) g) : (call tbl (k + 2) 458 [.ref n] h).Sat Q := by
  rw [zao, h458]
  refine zbn rfl ?_
  simp only [F_law_text, zax, List.map, List.length, List.replicate, List.cons_append, List.nil_append]
  have := w.k0
  have := w.k1
  have := w.k2
  have ix : ∀ (g : PH) (i : Nat) (v : PV), g[n]? = some (.lst [.ref a, .ref b, .ref c]) → ([PV.ref a, .ref b, .ref c] : List PV)[i]? = some v → idxop (.ref n) (.int (i : Int)) g = .ok v g := fun g i v e1 e2 => zbb e1 (at_nat e2)
  rw [zad]
  simp only [x_set, g_bin, fin_f, zai]
  refine sign_comp (s := "+") (m := a) len_plus (by simp; rw [show (0 : Int) = ((0 : Nat) : Int) from rfl, ix h 0 _ x.top rfl]; simp) x.ha w.o0 w.k0 (fun v => ⟨_, rfl, rfl⟩) ?_
  obtain ⟨g1, hg1⟩ : ∃ g, g = h ++ [PO.lst ((l0.map fun x => ("+" : Str) ++ x).map PV.str)] := ⟨_, rfl⟩
  rw [← hg1]
  have x1 : L3s g1 n a b c l0 l1 l2 := by rw [hg1]; exact x.app
  have e1 : g1[h.length]? = some (.lst ((l0.map fun x => ("+" : Str) ++ x).map PV.str)) := by rw [hg1]; simp
  refine sign_comp (s := "-") (m := b) len_minus (by simp; rw [show (1 : Int) = ((1 : Nat) : Int) from rfl, ix g1 1 _ x1.top rfl]; simp) x1.hb w.o1 w.k1 (fun v => ⟨_, rfl, rfl⟩) ?_
  obtain ⟨g2, hg2⟩ : ∃ g, g = g1 ++ [PO.lst ((l1.map fun x => ("-" : Str) ++ x).map PV.str)] := ⟨_, rfl⟩
  rw [← hg2]
  have x2 : L3s g2 n a b c l0 l1 l2 := by rw [hg2]; exact x1.app
  have e2 : g2[h.length]? = some (.lst ((l0.map fun x => ("+" : Str) ++ x).map PV.str)) := by rw [hg2, List.getElem?_append_left (zah e1)]; exact e1
  have e2' : g2[g1.length]? = some (.lst ((l1.map fun x => ("-" : Str) ++ x).map PV.str)) := by rw [hg2]; simp
  rw [b_addL e2 e2' (by simp; omega)]
  simp only [zan, List.set]
  obtain ⟨g3, hg3⟩ : ∃ g, g = g2 ++ [PO.lst ((l0.map fun x => ("+" : Str) ++ x).map PV.str ++ (l1.map fun x => ("-" : Str) ++ x).map PV.str)] := ⟨_, rfl⟩
  rw [← hg3]
  have x3 : L3s g3 n a b c l0 l1 l2 := by rw [hg3]; exact x2.app
  have e3 : g3[g2.length]? = some (.lst (((l0.map fun x => ("+" : Str) ++ x) ++ (l1.map fun x => ("-" : Str) ++ x)).map PV.str)) := by rw [hg3, List.map_append]; simp
  have f3 : Fr [] h g3 := by rw [hg3, hg2, hg1, List.append_assoc, List.append_assoc]; exact Fr.app
  have lm : g2.length ≠ c := by have := zah x2.hc; omega
  have lh : h.length ≤ g2.length := by rw [hg2, hg1]; simp
  obtain ⟨P, hP⟩ : ∃ P : List Str, P = (l0.map fun x => ("+" : Str) ++ x) ++ (l1.map fun x => ("-" : Str) ++ x) := ⟨_, rfl⟩
  rw [← hP] at e3
  have lP : P.length ≤ 200 := by rw [hP]; simp; omega
  rw [zad]
  refine x_forE (l := [.ref c]) (h1 := g3) (by simp; rw [show (2 : Int) = ((2 : Nat) : Int) from rfl, ix g3 2 _ x3.top rfl]; simp) (walk_ref x3.hc) (fun i ρ g => ∃ (o2 o3 : Option PV), ρ = [some (.ref n), some (.ref g2.length), o2, o3] ∧ g[g2.length]? = some (.lst ((P ++ (l2.take i).map sT).map PV.str)) ∧ Fr [g2.length] g3 g) ⟨none, none, rfl, by simpa using e3, Fr.refl _ _⟩ ?_ ?_
  · rintro i y ρ g hy ⟨o2, o3, rfl, eg, fg⟩
    rw [List.getElem?_map, Option.map_eq_some_iff] at hy
    obtain ⟨s, hs, rfl⟩ := hy
    have hi := (List.getElem?_eq_some_iff.mp hs).1
    have ok := w.o2 s (List.mem_of_getElem? hs)
    refine ⟨zbh (fg.some (by simp; exact Ne.symm lm) x3.hc), _, rfl, ?_⟩
    simp only [List.set]
    rw [x_one]
    have le := lead_eq (C := call tbl (k + 1)) (h := g) (ρ := [some (.ref n), some (.ref g2.length), some (.str s.1), some (ldv s.2)]) (i := 3) (l := s.2) (fun q h o => number_eq h457 (k := k) o) ok.ld rfl
    have n1 := ok.nm.len
    have n2 := leadT_len ok.ld
    simp only [x_ex, g_mth, g_var, fin_f, get0, getS, za6, R.bind_ok, zai, zan]
    rw [if_pos (show tyOf g (.ref g2.length) = some MT.append.ty from ty_ref eg)]
    simp only [gs_cons, gs_nil, g_bin, g_var, g_lit, fin_f, get0, getS, za6, R.bind_ok, zai, zan]
    rw [addT (by rw [len_eqs]; omega)]
    simp only [R.bind_ok, zan]
    rw [le]
    simp only [R.bind_ok, zan]
    rw [addT (by rw [zbq, len_eqs]; omega)]
    simp only [R.bind_ok, zan]
    rw [mt_append eg (by simp; omega)]
    simp only [zan]
    refine ⟨_, _, rfl, ?_, fg.trans (Fr.set (by simp))⟩
    rw [List.getElem?_set_self (zah eg), List.take_add_one, hs]
    simp [sT]
  · rintro ρ g ⟨o2, o3, rfl, eg, fg⟩
    refine ⟨zbh (fg.some (by simp; exact Ne.symm lm) x3.hc), ?_⟩
    rw [x_one]
    simp only [x_ret, g_mth, g_lit, fin_f, R.bind_ok, zai, zan]
    rw [if_pos (show tyOf g (.str " ") = some MT.join.ty from rfl)]
    simp only [gs_cons, gs_nil, g_var, fin_f, get0, getS, za6, R.bind_ok, zai, zan]
    have w2 := TX_len w
    rw [List.length_map, List.take_length, hP, show (l0.map fun x => ("+" : Str) ++ x) ++ (l1.map fun x => ("-" : Str) ++ x) ++ l2.map sT = TX l0 l1 l2 from rfl] at eg
    rw [mt_join (xs := TX l0 l1 l2) (B := 80) eg w2.1 (by rw [len_blank]; omega)]
    simp only [zan]
    refine q g ⟨Nat.le_trans f3.len fg.len, fun m hm hl => ?_⟩
    rw [fg.at_ m (by simp; omega) (Nat.lt_of_lt_of_le hl f3.len), f3.at_ m hm hl]
end
end Sb
namespace Sb
open PySem
section
variable {h : PH} {n a b c : Nat} {l0 l1 : List Str} {l2 : List Snd}
theorem L3s.setA (x : L3s h n a b c l0 l1 l2) (m : List Str) : L3s (h.set a (.lst (m.map PV.str))) n a b c m l1 l2 :=
  ⟨by rw [List.getElem?_set_ne (Ne.symm x.na)]; exact x.top, by rw [List.getElem?_set_self (zah x.ha)], by rw [List.getElem?_set_ne x.ab]; exact x.hb, by rw [List.getElem?_set_ne x.ac]; exact x.hc, x.n3, x.a3, x.b3, x.c3, x.ab, x.ac, x.bc, x.na, x.nb, x.nc⟩
theorem L3s.setB (x : L3s h n a b c l0 l1 l2) (m : List Str) : L3s (h.set b (.lst (m.map PV.str))) n a b c l0 m l2 :=
  ⟨by rw [List.getElem?_set_ne (Ne.symm x.nb)]; exact x.top, by rw [List.getElem?_set_ne (Ne.symm x.ab)]; exact x.ha, by rw [List.getElem?_set_self (zah x.hb)], by rw [List.getElem?_set_ne x.bc]; exact x.hc, x.n3, x.a3, x.b3, x.c3, x.ab, x.ac, x.bc, x.na, x.nb, x.nc⟩
theorem L3s.setC (x : L3s h n a b c l0 l1 l2) (m : List Snd) : L3s (h.set c (.lst (m.map sv))) n a b c l0 l1 m :=
  ⟨by rw [List.getElem?_set_ne (Ne.symm x.nc)]; exact x.top, by rw [List.getElem?_set_ne (Ne.symm x.ac)]; exact x.ha, by rw [List.getElem?_set_ne (Ne.symm x.bc)]; exact x.hb, by rw [List.getElem?_set_self (zah x.hc)], x.n3, x.a3, x.b3, x.c3, x.ab, x.ac, x.bc, x.na, x.nb, x.nc⟩
/-- the rows' list names other lists -/
theorem L3s.setT (x : L3s h n a b c l0 l1 l2) {a' b' c' : Nat} {m0 m1 : List Str} {m2 : List Snd} (ha : h[a']? = some (.lst (m0.map PV.str))) (hb : h[b']? = some (.lst (m1.map PV.str))) (hc : h[c']? = some (.lst (m2.map sv))) (a3 : 3 ≤ a') (b3 : 3 ≤ b') (c3 : 3 ≤ c') (ab : a' ≠ b') (ac : a' ≠ c') (bc : b' ≠ c') (na : n ≠ a') (nb : n ≠ b') (nc : n ≠ c') :
    L3s (h.set n (.lst [.ref a', .ref b', .ref c'])) n a' b' c' m0 m1 m2 :=
  ⟨by rw [List.getElem?_set_self (zah x.top)], by rw [List.getElem?_set_ne na]; exact ha, by rw [List.getElem?_set_ne nb]; exact hb, by rw [List.getElem?_set_ne nc]; exact hc, x.n3, a3, b3, c3, ab, ac, bc, na, nb, nc⟩
theorem L3s.i0 (x : L3s h n a b c l0 l1 l2) : idxop (.ref n) (.int 0) h = .ok (.ref a) h := zbb x.top (at_nat (n := 0) rfl)
theorem L3s.i1 (x : L3s h n a b c l0 l1 l2) : idxop (.ref n) (.int 1) h = .ok (.ref b) h := zbb x.top (at_nat (n := 1) rfl)
theorem L3s.i2 (x : L3s h n a b c l0 l1 l2) : idxop (.ref n) (.int 2) h = .ok (.ref c) h := zbb x.top (at_nat (n := 2) rfl)
end
/-- what the drawn change leaves -/
structure BN (h0 : PH) (B : Nat) (n : Nat) (g : PH) : Prop where
  ex : ∃ a b c m0 m1 m2, L3s g n a b c m0 m1 m2 ∧ WL m0 m1 m2
  st : St g 2 0 1 B
  fr : Fr [2, 0] h0 g
section
variable {tbl : Nat → Fn} {k B : Nat} {h h0 : PH} {n a b c : Nat} {l0 l1 : List Str} {l2 : List Snd} {Q : PV → PH → Prop}
theorem mt_popAt {m : Nat} {l : List PV} {i : Int} {v : PV} (e : h[m]? = some (.lst l)) (h0 : 0 ≤ i) (hv : l[i.toNat]? = some v) : mtF .popAt (.ref m) [.int i] h = .ok v (h.set m (.lst (l.eraseIdx i.toNat))) := by
  simp only [mtF, mtPopAt, e, h0, if_true, hv]
theorem set_sub {m : Nat} {l : List PV} {i : Nat} {v : PV} (e : h[m]? = some (.lst l)) (hi : i < l.length) : zbo (.ref m) (.int (i : Int)) v h = some (h.set m (.lst (l.set i v))) := by
  have ix : L2.ixN l.length (i : Int) = some i := by
    unfold L2.ixN
    simp
    omega
  simp only [zbo, e, ix]
def bentS : List S := [.ifs (.cmp .Eq (.var 4) (.lit (.int 0))) [.ex (.mth .append (.idx (.var 2) (.var 3)) [(.idx (.lst [(.lit (.str "a")), (.lit (.str "a")), (.tup [(.lit (.str "a")), (.lit .non)])]) (.var 3))])] [], .ifs (.band (.cmp .Eq (.var 4) (.lit (.int 1))) (.idx (.var 2) (.var 3))) [.ex (.mth .popAt (.idx (.var 2) (.var 3)) [(.call 6 [(.var 0), (.bi .len [(.idx (.var 2) (.var 3))])] [])])] [], .ifs (.cmp .Eq (.var 4) (.lit (.int 2))) [.asg (.sub2 (.var 2) (.lit (.int 0)) (.var 2) (.lit (.int 1))) (.tup [(.idx (.var 2) (.lit (.int 1))), (.idx (.var 2) (.lit (.int 0)))])] [], .ifs (.cmp .Eq (.var 4) (.lit (.int 3))) [.asg (.sub (.var 2) (.var 3)) (.rev (.idx (.var 2) (.var 3)))] [], .ifs (.band (.cmp .Eq (.var 4) (.lit (.int 4))) (.idx (.var 2) (.lit (.int 2)))) [.asg (.sub (.idx (.var 2) (.lit (.int 2))) (.lit (.int 0))) (.tup [(.idx (.idx (.idx (.var 2) (.lit (.int 2))) (.lit (.int 0))) (.lit (.int 0))), (.tup [(.tup [(.lit (.int 1)), (.lit (.int 1))]), (.tup [(.call 6 [(.var 0), (.lit (.int 3))] []), (.lit (.int 1))])])])] [], .ret (.var 2)]
def bentE (m n : Nat) (t wy : Int) (o5 : Option PV) : Env := [some (.ref 2), some (.ref m), some (.ref n), some (.int t), some (.int wy), o5]
theorem nm_a : NmOk "a" := labels_ok _ (by decide)
theorem qs1 : Qs 44 1 := ⟨by decide, by decide⟩
theorem x_sub2E {C : Calls} {ρ : Env} {h1 h2 h3 : PH} {e o i o2 i2 : E} {v w x y x2 y2 : PV} {N : Env → PH → Prop} {T : PV → PH → Prop} (ee : evG C e false ρ h = .ok (.tup [v, w]) h1) (eo : evG C o false ρ h1 = .ok x h1) (ei : evG C i false ρ h1 = .ok y h1) (s : zbo x y v h1 = some h2) (eo2 : evG C o2 false ρ h2 = .ok x2 h2) (ei2 : evG C i2 false ρ h2 = .ok y2 h2) (s2 : zbo x2 y2 w h2 = some h3) (q : N ρ h3) : (exS C (.asg (.sub2 o i o2 i2) e) ρ h).Sat N T := by
  simp only [exS, evE, ee, R.st_ok, stTg, eo, ei, s, eo2, ei2, s2]
  exact q
/-- the rows are well away from what stood -/
structure Far3 (h0 : PH) (n a b c : Nat) : Prop where
  n : h0.length ≤ n
  a : h0.length ≤ a
  b : h0.length ≤ b
  c : h0.length ≤ c
theorem bent0_0 (h5 : tbl 5 = F_law_mix) (h6 : tbl 6 = F_law_draw) (x : L3s h n a b c l0 l1 l2) (w : WL l0 l1 l2) (k0 : l0.length ≤ 4) (k1 : l1.length ≤ 4) (k2 : l2.length ≤ 4) (far : Far3 h0 n a b c) (st : St h 2 0 1 B) (hB : B + 8 ≤ 2 ^ 20) (fr : Fr [2, 0] h0 h) {o5 : Option PV} {m : Nat} (q : ∀ g, BN h0 (B + 8) n g → Q (.ref n) g) : (exSs (call tbl (k + 2)) bentS (bentE m n 0 0 o5) h).Sat (fun _ _ => False) Q := by
  unfold bentS bentE
  have ix := x.i0
  obtain ⟨L, hL⟩ : ∃ L : List PV, L = [.str "a", .str "a", .tup [.str "a", .non]] := ⟨_, rfl⟩
  have al : alloc L h = .ok (.ref h.length) (h ++ [PO.lst L]) := zap _ (by rw [hL]; simp)
  have xg := x.app (t := [PO.lst L])
  have il : idxop (.ref h.length) (.int 0) (h ++ [PO.lst L]) = .ok (.str "a") (h ++ [PO.lst L]) := zbb (l := L) (by simp) (at_nat (n := 0) (by rw [hL]; rfl))
  rw [zad]
  simp [ix, ty_ref x.ha, MT.ty, ← hL, al, il]
  rw [mt_append xg.ha (by rw [List.length_map]; omega)]
  simp
  obtain ⟨g, hg⟩ : ∃ g, g = (h ++ [PO.lst L]).set a (.lst ((l0 ++ [("a" : Str)]).map PV.str)) := ⟨_, rfl⟩
  rw [show (h ++ [PO.lst L]).set a (.lst (l0.map PV.str ++ [.str "a"])) = g by rw [hg]; simp [sv, ldv]]
  rw [zad]; simp
  rw [zad]; simp
  rw [zad]; simp
  rw [zad]; simp
  try simp
  refine q g ⟨⟨a, b, c, _, _, _, by rw [hg]; exact xg.setA (l0 ++ [("a" : Str)]), ⟨fun y hy => (List.mem_append.mp hy).elim (w.o0 y) fun z => by rw [List.mem_singleton.mp z]; exact nm_a, w.o1, w.o2, by simp; omega, by omega, by omega⟩⟩, ?_, ?_⟩
  · rw [hg]
    exact ((st.app).frame (S := [a]) (Fr.set (by simp)) (by simp; have := x.a3; omega) (by simp; have := x.a3; omega) (by simp; have := x.a3; omega)).up (by omega)
  · rw [hg]
    refine ⟨by simp; have := fr.len; omega, fun j hj hl => ?_⟩
    have := far.a
    have := fr.len
    rw [List.getElem?_set_ne (by omega), List.getElem?_append_left (by omega), fr.at_ j hj hl]
theorem bent0_1 (h5 : tbl 5 = F_law_mix) (h6 : tbl 6 = F_law_draw) (x : L3s h n a b c l0 l1 l2) (w : WL l0 l1 l2) (k0 : l0.length ≤ 4) (k1 : l1.length ≤ 4) (k2 : l2.length ≤ 4) (far : Far3 h0 n a b c) (st : St h 2 0 1 B) (hB : B + 8 ≤ 2 ^ 20) (fr : Fr [2, 0] h0 h) {o5 : Option PV} {m : Nat} (q : ∀ g, BN h0 (B + 8) n g → Q (.ref n) g) : (exSs (call tbl (k + 2)) bentS (bentE m n 1 0 o5) h).Sat (fun _ _ => False) Q := by
  unfold bentS bentE
  have ix := x.i1
  obtain ⟨L, hL⟩ : ∃ L : List PV, L = [.str "a", .str "a", .tup [.str "a", .non]] := ⟨_, rfl⟩
  have al : alloc L h = .ok (.ref h.length) (h ++ [PO.lst L]) := zap _ (by rw [hL]; simp)
  have xg := x.app (t := [PO.lst L])
  have il : idxop (.ref h.length) (.int 1) (h ++ [PO.lst L]) = .ok (.str "a") (h ++ [PO.lst L]) := zbb (l := L) (by simp) (at_nat (n := 1) (by rw [hL]; rfl))
  rw [zad]
  simp [ix, ty_ref x.hb, MT.ty, ← hL, al, il]
  rw [mt_append xg.hb (by rw [List.length_map]; omega)]
  simp
  obtain ⟨g, hg⟩ : ∃ g, g = (h ++ [PO.lst L]).set b (.lst ((l1 ++ [("a" : Str)]).map PV.str)) := ⟨_, rfl⟩
  rw [show (h ++ [PO.lst L]).set b (.lst (l1.map PV.str ++ [.str "a"])) = g by rw [hg]; simp [sv, ldv]]
  rw [zad]; simp
  rw [zad]; simp
  rw [zad]; simp
  rw [zad]; simp
  try simp
  refine q g ⟨⟨a, b, c, _, _, _, by rw [hg]; exact xg.setB (l1 ++ [("a" : Str)]), ⟨w.o0, fun y hy => (List.mem_append.mp hy).elim (w.o1 y) fun z => by rw [List.mem_singleton.mp z]; exact nm_a, w.o2, by omega, by simp; omega, by omega⟩⟩, ?_, ?_⟩
  · rw [hg]
    exact ((st.app).frame (S := [b]) (Fr.set (by simp)) (by simp; have := x.b3; omega) (by simp; have := x.b3; omega) (by simp; have := x.b3; omega)).up (by omega)
  · rw [hg]
    refine ⟨by simp; have := fr.len; omega, fun j hj hl => ?_⟩
    have := far.b
    have := fr.len
    rw [List.getElem?_set_ne (by omega), List.getElem?_append_left (by omega), fr.at_ j hj hl]
theorem bent0_2 (h5 : tbl 5 = F_law_mix) (h6 : tbl 6 = F_law_draw) (x : L3s h n a b c l0 l1 l2) (w : WL l0 l1 l2) (k0 : l0.length ≤ 4) (k1 : l1.length ≤ 4) (k2 : l2.length ≤ 4) (far : Far3 h0 n a b c) (st : St h 2 0 1 B) (hB : B + 8 ≤ 2 ^ 20) (fr : Fr [2, 0] h0 h) {o5 : Option PV} {m : Nat} (q : ∀ g, BN h0 (B + 8) n g → Q (.ref n) g) : (exSs (call tbl (k + 2)) bentS (bentE m n 2 0 o5) h).Sat (fun _ _ => False) Q := by
  unfold bentS bentE
  have ix := x.i2
  obtain ⟨L, hL⟩ : ∃ L : List PV, L = [.str "a", .str "a", .tup [.str "a", .non]] := ⟨_, rfl⟩
  have al : alloc L h = .ok (.ref h.length) (h ++ [PO.lst L]) := zap _ (by rw [hL]; simp)
  have xg := x.app (t := [PO.lst L])
  have il : idxop (.ref h.length) (.int 2) (h ++ [PO.lst L]) = .ok (.tup [.str "a", .non]) (h ++ [PO.lst L]) := zbb (l := L) (by simp) (at_nat (n := 2) (by rw [hL]; rfl))
  rw [zad]
  simp [ix, ty_ref x.hc, MT.ty, ← hL, al, il]
  rw [mt_append xg.hc (by rw [List.length_map]; omega)]
  simp
  obtain ⟨g, hg⟩ : ∃ g, g = (h ++ [PO.lst L]).set c (.lst ((l2 ++ [((("a" : Str), none) : Snd)]).map sv)) := ⟨_, rfl⟩
  rw [show (h ++ [PO.lst L]).set c (.lst (l2.map sv ++ [.tup [.str "a", .non]])) = g by rw [hg]; simp [sv, ldv]]
  rw [zad]; simp
  rw [zad]; simp
  rw [zad]; simp
  rw [zad]; simp
  try simp
  refine q g ⟨⟨a, b, c, _, _, _, by rw [hg]; exact xg.setC (l2 ++ [((("a" : Str), none) : Snd)]), ⟨w.o0, w.o1, fun y hy => (List.mem_append.mp hy).elim (w.o2 y) fun z => by rw [List.mem_singleton.mp z]; exact ⟨nm_a, fun m e => by cases e⟩, by omega, by omega, by simp; omega⟩⟩, ?_, ?_⟩
  · rw [hg]
    exact ((st.app).frame (S := [c]) (Fr.set (by simp)) (by simp; have := x.c3; omega) (by simp; have := x.c3; omega) (by simp; have := x.c3; omega)).up (by omega)
  · rw [hg]
    refine ⟨by simp; have := fr.len; omega, fun j hj hl => ?_⟩
    have := far.c
    have := fr.len
    rw [List.getElem?_set_ne (by omega), List.getElem?_append_left (by omega), fr.at_ j hj hl]
theorem bent1_0 (h5 : tbl 5 = F_law_mix) (h6 : tbl 6 = F_law_draw) (x : L3s h n a b c l0 l1 l2) (w : WL l0 l1 l2) (k0 : l0.length ≤ 4) (k1 : l1.length ≤ 4) (k2 : l2.length ≤ 4) (far : Far3 h0 n a b c) (st : St h 2 0 1 B) (hB : B + 8 ≤ 2 ^ 20) (fr : Fr [2, 0] h0 h) {o5 : Option PV} {m : Nat} (q : ∀ g, BN h0 (B + 8) n g → Q (.ref n) g) : (exSs (call tbl (k + 2)) bentS (bentE m n 0 1 o5) h).Sat (fun _ _ => False) Q := by
  unfold bentS bentE
  have ix := x.i0
  rw [zad]; simp
  rw [zad]
  have tr := tru_ref x.ha
  by_cases hz : l0 = []
  · subst hz
    simp at tr
    simp [ix, tr]
    rw [zad]; simp
    rw [zad]; simp
    rw [zad]; simp
    try simp
    exact q h ⟨⟨a, b, c, _, _, _, x, w⟩, st.up (by omega), fr⟩
  · have hp : 0 < l0.length := List.length_pos_iff.mpr hz
    have he : (l0.map PV.str).isEmpty = false := by
      cases l0 with
      | nil => exact absurd rfl hz
      | cons _ _ => rfl
    rw [he] at tr
    have bl : biF .len [.ref a] h = .ok (.int (l0.length : Nat)) h := by
      have e := x.ha
      simp only [biF, biLen, e, List.length_map]
    simp [ix, tr, ty_ref x.ha, MT.ty, bl]
    refine zbc h5 h6 (k := k) st (by omega) (by omega) (by omega) fun r g1 r0 r1 s1 f1 _ => ?_
    have x1 := x.fr f1 (by simp)
    obtain ⟨v, hv⟩ : ∃ v, l0[r.toNat]? = some v := ⟨_, List.getElem?_eq_getElem (by omega)⟩
    rw [mt_popAt x1.ha r0 (v := PV.str v) (by rw [List.getElem?_map, hv]; rfl), erase_map]
    simp
    obtain ⟨g, hg⟩ : ∃ g, g = g1.set a (.lst ((l0.eraseIdx r.toNat).map PV.str)) := ⟨_, rfl⟩
    rw [← hg]
    rw [zad]; simp
    rw [zad]; simp
    rw [zad]; simp
    try simp
    refine q g ⟨⟨a, b, c, _, _, _, by rw [hg]; exact x1.setA _, ⟨fun y hy => w.o0 y (List.mem_of_mem_eraseIdx hy), w.o1, w.o2, by have := List.length_eraseIdx_le (l := l0) (i := r.toNat); omega, by omega, by omega⟩⟩, ?_, ?_⟩
    · rw [hg]
      exact (s1.frame (S := [a]) (Fr.set (by simp)) (by simp; have := x.a3; omega) (by simp; have := x.a3; omega) (by simp; have := x.a3; omega))
    · rw [hg]
      have f2 := fr.trans f1
      refine ⟨by simp; have := f2.len; omega, fun j hj hl => ?_⟩
      have := far.a
      rw [List.getElem?_set_ne (by omega), f2.at_ j hj hl]
theorem bent1_1 (h5 : tbl 5 = F_law_mix) (h6 : tbl 6 = F_law_draw) (x : L3s h n a b c l0 l1 l2) (w : WL l0 l1 l2) (k0 : l0.length ≤ 4) (k1 : l1.length ≤ 4) (k2 : l2.length ≤ 4) (far : Far3 h0 n a b c) (st : St h 2 0 1 B) (hB : B + 8 ≤ 2 ^ 20) (fr : Fr [2, 0] h0 h) {o5 : Option PV} {m : Nat} (q : ∀ g, BN h0 (B + 8) n g → Q (.ref n) g) : (exSs (call tbl (k + 2)) bentS (bentE m n 1 1 o5) h).Sat (fun _ _ => False) Q := by
  unfold bentS bentE
  have ix := x.i1
  rw [zad]; simp
  rw [zad]
  have tr := tru_ref x.hb
  by_cases hz : l1 = []
  · subst hz
    simp at tr
    simp [ix, tr]
    rw [zad]; simp
    rw [zad]; simp
    rw [zad]; simp
    try simp
    exact q h ⟨⟨a, b, c, _, _, _, x, w⟩, st.up (by omega), fr⟩
  · have hp : 0 < l1.length := List.length_pos_iff.mpr hz
    have he : (l1.map PV.str).isEmpty = false := by
      cases l1 with
      | nil => exact absurd rfl hz
      | cons _ _ => rfl
    rw [he] at tr
    have bl : biF .len [.ref b] h = .ok (.int (l1.length : Nat)) h := by
      have e := x.hb
      simp only [biF, biLen, e, List.length_map]
    simp [ix, tr, ty_ref x.hb, MT.ty, bl]
    refine zbc h5 h6 (k := k) st (by omega) (by omega) (by omega) fun r g1 r0 r1 s1 f1 _ => ?_
    have x1 := x.fr f1 (by simp)
    obtain ⟨v, hv⟩ : ∃ v, l1[r.toNat]? = some v := ⟨_, List.getElem?_eq_getElem (by omega)⟩
    rw [mt_popAt x1.hb r0 (v := PV.str v) (by rw [List.getElem?_map, hv]; rfl), erase_map]
    simp
    obtain ⟨g, hg⟩ : ∃ g, g = g1.set b (.lst ((l1.eraseIdx r.toNat).map PV.str)) := ⟨_, rfl⟩
    rw [← hg]
    rw [zad]; simp
    rw [zad]; simp
    rw [zad]; simp
    try simp
    refine q g ⟨⟨a, b, c, _, _, _, by rw [hg]; exact x1.setB _, ⟨w.o0, fun y hy => w.o1 y (List.mem_of_mem_eraseIdx hy), w.o2, by omega, by have := List.length_eraseIdx_le (l := l1) (i := r.toNat); omega, by omega⟩⟩, ?_, ?_⟩
    · rw [hg]
      exact (s1.frame (S := [b]) (Fr.set (by simp)) (by simp; have := x.b3; omega) (by simp; have := x.b3; omega) (by simp; have := x.b3; omega))
    · rw [hg]
      have f2 := fr.trans f1
      refine ⟨by simp; have := f2.len; omega, fun j hj hl => ?_⟩
      have := far.b
      rw [List.getElem?_set_ne (by omega), f2.at_ j hj hl]
theorem bent1_2 (h5 : tbl 5 = F_law_mix) (h6 : tbl 6 = F_law_draw) (x : L3s h n a b c l0 l1 l2) (w : WL l0 l1 l2) (k0 : l0.length ≤ 4) (k1 : l1.length ≤ 4) (k2 : l2.length ≤ 4) (far : Far3 h0 n a b c) (st : St h 2 0 1 B) (hB : B + 8 ≤ 2 ^ 20) (fr : Fr [2, 0] h0 h) {o5 : Option PV} {m : Nat} (q : ∀ g, BN h0 (B + 8) n g → Q (.ref n) g) : (exSs (call tbl (k + 2)) bentS (bentE m n 2 1 o5) h).Sat (fun _ _ => False) Q := by
  unfold bentS bentE
  have ix := x.i2
  rw [zad]; simp
  rw [zad]
  have tr := tru_ref x.hc
  by_cases hz : l2 = []
  · subst hz
    simp at tr
    simp [ix, tr]
    rw [zad]; simp
    rw [zad]; simp
    rw [zad]; simp
    try simp
    exact q h ⟨⟨a, b, c, _, _, _, x, w⟩, st.up (by omega), fr⟩
  · have hp : 0 < l2.length := List.length_pos_iff.mpr hz
    have he : (l2.map sv).isEmpty = false := by
      cases l2 with
      | nil => exact absurd rfl hz
      | cons _ _ => rfl
    rw [he] at tr
    have bl : biF .len [.ref c] h = .ok (.int (l2.length : Nat)) h := by
      have e := x.hc
      simp only [biF, biLen, e, List.length_map]
    simp [ix, tr, ty_ref x.hc, MT.ty, bl]
    refine zbc h5 h6 (k := k) st (by omega) (by omega) (by omega) fun r g1 r0 r1 s1 f1 _ => ?_
    have x1 := x.fr f1 (by simp)
    obtain ⟨v, hv⟩ : ∃ v, l2[r.toNat]? = some v := ⟨_, List.getElem?_eq_getElem (by omega)⟩
    rw [mt_popAt x1.hc r0 (v := sv v) (by rw [List.getElem?_map, hv]; rfl), erase_map]
    simp
    obtain ⟨g, hg⟩ : ∃ g, g = g1.set c (.lst ((l2.eraseIdx r.toNat).map sv)) := ⟨_, rfl⟩
    rw [← hg]
    rw [zad]; simp
    rw [zad]; simp
    rw [zad]; simp
    try simp
    refine q g ⟨⟨a, b, c, _, _, _, by rw [hg]; exact x1.setC _, ⟨w.o0, w.o1, fun y hy => w.o2 y (List.mem_of_mem_eraseIdx hy), by omega, by omega, by have := List.length_eraseIdx_le (l := l2) (i := r.toNat); omega⟩⟩, ?_, ?_⟩
    · rw [hg]
      exact (s1.frame (S := [c]) (Fr.set (by simp)) (by simp; have := x.c3; omega) (by simp; have := x.c3; omega) (by simp; have := x.c3; omega))
    · rw [hg]
      have f2 := fr.trans f1
      refine ⟨by simp; have := f2.len; omega, fun j hj hl => ?_⟩
      have := far.c
      rw [List.getElem?_set_ne (by omega), f2.at_ j hj hl]
theorem bent2 (h5 : tbl 5 = F_law_mix) (h6 : tbl 6 = F_law_draw) (x : L3s h n a b c l0 l1 l2) (w : WL l0 l1 l2) (k0 : l0.length ≤ 4) (k1 : l1.length ≤ 4) (k2 : l2.length ≤ 4) (far : Far3 h0 n a b c) (st : St h 2 0 1 B) (hB : B + 8 ≤ 2 ^ 20) (fr : Fr [2, 0] h0 h) {o5 : Option PV} {m : Nat} (q : ∀ g, BN h0 (B + 8) n g → Q (.ref n) g) {t : Int} : (exSs (call tbl (k + 2)) bentS (bentE m n t 2 o5) h).Sat (fun _ _ => False) Q := by
  unfold bentS bentE
  rw [zad]; simp
  rw [zad]; simp
  rw [zad]
  simp
  obtain ⟨g1, hg1⟩ : ∃ g1, g1 = h.set n (.lst [.ref b, .ref b, .ref c]) := ⟨_, rfl⟩
  have e1 : g1[n]? = some (.lst [.ref b, .ref b, .ref c]) := by rw [hg1, List.getElem?_set_self (zah x.top)]
  have ee : evG (call tbl (k + 2)) (.tup [(.idx (.var 2) (.lit (.int 1))), (.idx (.var 2) (.lit (.int 0)))]) false [some (.ref 2), some (.ref m), some (.ref n), some (.int t), some (.int 2), o5] h = .ok (.tup [.ref b, .ref a]) h := by
    simp [x.i1, x.i0]
  refine x_sub2E ee (x := .ref n) (y := .int 0) (x2 := .ref n) (y2 := .int 1) (h2 := g1) (by simp) (by simp) (by rw [hg1]; exact set_sub (i := 0) x.top (by simp)) (by simp) (by simp) (set_sub (i := 1) e1 (by simp)) ?_
  have hs : g1.set n (.lst ([PV.ref b, .ref b, .ref c].set 1 (.ref a))) = h.set n (.lst [.ref b, .ref a, .ref c]) := by rw [hg1, List.set_set]; rfl
  rw [hs]
  rw [zad]; simp
  rw [zad]; simp
  try simp
  refine q _ ⟨⟨b, a, c, _, _, _, x.setT x.hb x.ha x.hc x.b3 x.a3 x.c3 (Ne.symm x.ab) x.bc x.ac x.nb x.na x.nc, ⟨w.o1, w.o0, w.o2, by omega, by omega, by omega⟩⟩, ?_, ?_⟩
  · exact (st.frame (S := [n]) (Fr.set (by simp)) (by simp; have := x.n3; omega) (by simp; have := x.n3; omega) (by simp; have := x.n3; omega)).up (by omega)
  · refine ⟨by simp; have := fr.len; omega, fun j hj hl => ?_⟩
    have := far.n
    rw [List.getElem?_set_ne (by omega), fr.at_ j hj hl]
theorem bent3_0 (h5 : tbl 5 = F_law_mix) (h6 : tbl 6 = F_law_draw) (x : L3s h n a b c l0 l1 l2) (w : WL l0 l1 l2) (k0 : l0.length ≤ 4) (k1 : l1.length ≤ 4) (k2 : l2.length ≤ 4) (far : Far3 h0 n a b c) (st : St h 2 0 1 B) (hB : B + 8 ≤ 2 ^ 20) (fr : Fr [2, 0] h0 h) {o5 : Option PV} {m : Nat} (q : ∀ g, BN h0 (B + 8) n g → Q (.ref n) g) : (exSs (call tbl (k + 2)) bentS (bentE m n 0 3 o5) h).Sat (fun _ _ => False) Q := by
  unfold bentS bentE
  have ix := x.i0
  have l3 : 3 ≤ h.length := by have := st.lt; omega
  rw [zad]; simp
  rw [zad]; simp
  rw [zad]; simp
  rw [zad]
  have rv : revop (.ref a) h = .ok (.ref h.length) (h ++ [.lst ((l0.reverse).map PV.str)]) := by
    have e := x.ha
    simp only [revop, listOf, e]
    rw [zap _ (by simp; omega), List.map_reverse]
  simp [ix, rv, ← List.map_reverse]
  obtain ⟨H, hH⟩ : ∃ H, H = h ++ [PO.lst ((l0.reverse).map PV.str)] := ⟨_, rfl⟩
  rw [← hH]
  have xg : L3s H n a b c l0 l1 l2 := by rw [hH]; exact x.app
  have eg : H[h.length]? = some (.lst ((l0.reverse).map PV.str)) := by rw [hH]; simp
  refine ⟨_, set_sub (i := 0) xg.top (by simp), ?_⟩
  rw [zad]; simp
  try simp
  refine q _ ⟨⟨h.length, b, c, _, _, _, xg.setT eg xg.hb xg.hc l3 x.b3 x.c3 (by have := zah x.ha; have := zah x.hb; have := zah x.hc; have := zah x.top; have := x.ab; have := x.ac; have := x.bc; have := x.na; have := x.nb; have := x.nc; omega) (by have := zah x.ha; have := zah x.hb; have := zah x.hc; have := zah x.top; have := x.ab; have := x.ac; have := x.bc; have := x.na; have := x.nb; have := x.nc; omega) (by have := zah x.ha; have := zah x.hb; have := zah x.hc; have := zah x.top; have := x.ab; have := x.ac; have := x.bc; have := x.na; have := x.nb; have := x.nc; omega) (by have := zah x.ha; have := zah x.hb; have := zah x.hc; have := zah x.top; have := x.ab; have := x.ac; have := x.bc; have := x.na; have := x.nb; have := x.nc; omega) (by have := zah x.ha; have := zah x.hb; have := zah x.hc; have := zah x.top; have := x.ab; have := x.ac; have := x.bc; have := x.na; have := x.nb; have := x.nc; omega) (by have := zah x.ha; have := zah x.hb; have := zah x.hc; have := zah x.top; have := x.ab; have := x.ac; have := x.bc; have := x.na; have := x.nb; have := x.nc; omega), ⟨fun y hy => w.o0 y (List.mem_reverse.mp hy), w.o1, w.o2, by simp; omega, by omega, by omega⟩⟩, ?_, ?_⟩
  · rw [hH]
    exact ((st.app).frame (S := [n]) (Fr.set (by simp)) (by simp; have := x.n3; omega) (by simp; have := x.n3; omega) (by simp; have := x.n3; omega)).up (by omega)
  · rw [hH]
    refine ⟨by simp; have := fr.len; omega, fun j hj hl => ?_⟩
    have := far.n
    have := fr.len
    rw [List.getElem?_set_ne (by omega), List.getElem?_append_left (by omega), fr.at_ j hj hl]
theorem bent3_1 (h5 : tbl 5 = F_law_mix) (h6 : tbl 6 = F_law_draw) (x : L3s h n a b c l0 l1 l2) (w : WL l0 l1 l2) (k0 : l0.length ≤ 4) (k1 : l1.length ≤ 4) (k2 : l2.length ≤ 4) (far : Far3 h0 n a b c) (st : St h 2 0 1 B) (hB : B + 8 ≤ 2 ^ 20) (fr : Fr [2, 0] h0 h) {o5 : Option PV} {m : Nat} (q : ∀ g, BN h0 (B + 8) n g → Q (.ref n) g) : (exSs (call tbl (k + 2)) bentS (bentE m n 1 3 o5) h).Sat (fun _ _ => False) Q := by
  unfold bentS bentE
  have ix := x.i1
  have l3 : 3 ≤ h.length := by have := st.lt; omega
  rw [zad]; simp
  rw [zad]; simp
  rw [zad]; simp
  rw [zad]
  have rv : revop (.ref b) h = .ok (.ref h.length) (h ++ [.lst ((l1.reverse).map PV.str)]) := by
    have e := x.hb
    simp only [revop, listOf, e]
    rw [zap _ (by simp; omega), List.map_reverse]
  simp [ix, rv, ← List.map_reverse]
  obtain ⟨H, hH⟩ : ∃ H, H = h ++ [PO.lst ((l1.reverse).map PV.str)] := ⟨_, rfl⟩
  rw [← hH]
  have xg : L3s H n a b c l0 l1 l2 := by rw [hH]; exact x.app
  have eg : H[h.length]? = some (.lst ((l1.reverse).map PV.str)) := by rw [hH]; simp
  refine ⟨_, set_sub (i := 1) xg.top (by simp), ?_⟩
  rw [zad]; simp
  try simp
  refine q _ ⟨⟨a, h.length, c, _, _, _, xg.setT xg.ha eg xg.hc x.a3 l3 x.c3 (by have := zah x.ha; have := zah x.hb; have := zah x.hc; have := zah x.top; have := x.ab; have := x.ac; have := x.bc; have := x.na; have := x.nb; have := x.nc; omega) (by have := zah x.ha; have := zah x.hb; have := zah x.hc; have := zah x.top; have := x.ab; have := x.ac; have := x.bc; have := x.na; have := x.nb; have := x.nc; omega) (by have := zah x.ha; have := zah x.hb; have := zah x.hc; have := zah x.top; have := x.ab; have := x.ac; have := x.bc; have := x.na; have := x.nb; have := x.nc; omega) (by have := zah x.ha; have := zah x.hb; have := zah x.hc; have := zah x.top; have := x.ab; have := x.ac; have := x.bc; have := x.na; have := x.nb; have := x.nc; omega) (by have := zah x.ha; have := zah x.hb; have := zah x.hc; have := zah x.top; have := x.ab; have := x.ac; have := x.bc; have := x.na; have := x.nb; have := x.nc; omega) (by have := zah x.ha; have := zah x.hb; have := zah x.hc; have := zah x.top; have := x.ab; have := x.ac; have := x.bc; have := x.na; have := x.nb; have := x.nc; omega), ⟨w.o0, fun y hy => w.o1 y (List.mem_reverse.mp hy), w.o2, by omega, by simp; omega, by omega⟩⟩, ?_, ?_⟩
  · rw [hH]
    exact ((st.app).frame (S := [n]) (Fr.set (by simp)) (by simp; have := x.n3; omega) (by simp; have := x.n3; omega) (by simp; have := x.n3; omega)).up (by omega)
  · rw [hH]
    refine ⟨by simp; have := fr.len; omega, fun j hj hl => ?_⟩
    have := far.n
    have := fr.len
    rw [List.getElem?_set_ne (by omega), List.getElem?_append_left (by omega), fr.at_ j hj hl]
theorem bent3_2 (h5 : tbl 5 = F_law_mix) (h6 : tbl 6 = F_law_draw) (x : L3s h n a b c l0 l1 l2) (w : WL l0 l1 l2) (k0 : l0.length ≤ 4) (k1 : l1.length ≤ 4) (k2 : l2.length ≤ 4) (far : Far3 h0 n a b c) (st : St h 2 0 1 B) (hB : B + 8 ≤ 2 ^ 20) (fr : Fr [2, 0] h0 h) {o5 : Option PV} {m : Nat} (q : ∀ g, BN h0 (B + 8) n g → Q (.ref n) g) : (exSs (call tbl (k + 2)) bentS (bentE m n 2 3 o5) h).Sat (fun _ _ => False) Q := by
  unfold bentS bentE
  have ix := x.i2
  have l3 : 3 ≤ h.length := by have := st.lt; omega
  rw [zad]; simp
  rw [zad]; simp
  rw [zad]; simp
  rw [zad]
  have rv : revop (.ref c) h = .ok (.ref h.length) (h ++ [.lst ((l2.reverse).map sv)]) := by
    have e := x.hc
    simp only [revop, listOf, e]
    rw [zap _ (by simp; omega), List.map_reverse]
  simp [ix, rv, ← List.map_reverse]
  obtain ⟨H, hH⟩ : ∃ H, H = h ++ [PO.lst ((l2.reverse).map sv)] := ⟨_, rfl⟩
  rw [← hH]
  have xg : L3s H n a b c l0 l1 l2 := by rw [hH]; exact x.app
  have eg : H[h.length]? = some (.lst ((l2.reverse).map sv)) := by rw [hH]; simp
  refine ⟨_, set_sub (i := 2) xg.top (by simp), ?_⟩
  rw [zad]; simp
  try simp
  refine q _ ⟨⟨a, b, h.length, _, _, _, xg.setT xg.ha xg.hb eg x.a3 x.b3 l3 (by have := zah x.ha; have := zah x.hb; have := zah x.hc; have := zah x.top; have := x.ab; have := x.ac; have := x.bc; have := x.na; have := x.nb; have := x.nc; omega) (by have := zah x.ha; have := zah x.hb; have := zah x.hc; have := zah x.top; have := x.ab; have := x.ac; have := x.bc; have := x.na; have := x.nb; have := x.nc; omega) (by have := zah x.ha; have := zah x.hb; have := zah x.hc; have := zah x.top; have := x.ab; have := x.ac; have := x.bc; have := x.na; have := x.nb; have := x.nc; omega) (by have := zah x.ha; have := zah x.hb; have := zah x.hc; have := zah x.top; have := x.ab; have := x.ac; have := x.bc; have := x.na; have := x.nb; have := x.nc; omega) (by have := zah x.ha; have := zah x.hb; have := zah x.hc; have := zah x.top; have := x.ab; have := x.ac; have := x.bc; have := x.na; have := x.nb; have := x.nc; omega) (by have := zah x.ha; have := zah x.hb; have := zah x.hc; have := zah x.top; have := x.ab; have := x.ac; have := x.bc; have := x.na; have := x.nb; have := x.nc; omega), ⟨w.o0, w.o1, fun y hy => w.o2 y (List.mem_reverse.mp hy), by omega, by omega, by simp; omega⟩⟩, ?_, ?_⟩
  · rw [hH]
    exact ((st.app).frame (S := [n]) (Fr.set (by simp)) (by simp; have := x.n3; omega) (by simp; have := x.n3; omega) (by simp; have := x.n3; omega)).up (by omega)
  · rw [hH]
    refine ⟨by simp; have := fr.len; omega, fun j hj hl => ?_⟩
    have := far.n
    have := fr.len
    rw [List.getElem?_set_ne (by omega), List.getElem?_append_left (by omega), fr.at_ j hj hl]
theorem bent4 (h5 : tbl 5 = F_law_mix) (h6 : tbl 6 = F_law_draw) (x : L3s h n a b c l0 l1 l2) (w : WL l0 l1 l2) (k0 : l0.length ≤ 4) (k1 : l1.length ≤ 4) (k2 : l2.length ≤ 4) (far : Far3 h0 n a b c) (st : St h 2 0 1 B) (hB : B + 8 ≤ 2 ^ 20) (fr : Fr [2, 0] h0 h) {o5 : Option PV} {m : Nat} (q : ∀ g, BN h0 (B + 8) n g → Q (.ref n) g) {t : Int} : (exSs (call tbl (k + 2)) bentS (bentE m n t 4 o5) h).Sat (fun _ _ => False) Q := by
  unfold bentS bentE
  rw [zad]; simp
  rw [zad]; simp
  rw [zad]; simp
  rw [zad]; simp
  rw [zad]
  have tr := tru_ref x.hc
  cases l2 with
  | nil =>
    simp at tr
    simp [x.i2, tr]
    exact q h ⟨⟨a, b, c, _, _, _, x, w⟩, st.up (by omega), fr⟩
  | cons s r =>
    simp at tr
    have i0 : idxop (.ref c) (.int 0) h = .ok (sv s) h := zbb x.hc (at_nat (n := 0) rfl)
    have i00 : ∀ g : PH, idxop (sv s) (.int 0) g = .ok (.str s.1) g := fun _ => rfl
    simp [x.i2, tr, i0, i00]
    refine zbc h5 h6 (k := k) st (by omega) (by decide) (by decide) fun u g1 u0 u1 s1 f1 _ => ?_
    have x1 := x.fr f1 (by simp)
    simp [x1.i2]
    have q1' : Qs 44 ((u : Int) : Rat) := ⟨by simp; omega, by simp⟩
    have ev : PV.tup [.str s.1, .tup [.tup [.int 1, .int 1], .tup [.int u, .int 1]]] = sv (s.1, some (1, (u : Rat))) := by
      simp [sv, ldv, fq]
    refine ⟨_, set_sub (i := 0) x1.hc (by simp), ?_⟩
    rw [ev]
    obtain ⟨g, hg⟩ : ∃ g, g = g1.set c (.lst (((s.1, some (1, (u : Rat))) :: r).map sv)) := ⟨_, rfl⟩
    rw [show g1.set c (.lst (((s :: r).map sv).set 0 (sv (s.1, some (1, (u : Rat)))))) = g by rw [hg]; rfl]
    refine q g ⟨⟨a, b, c, _, _, _, by rw [hg]; exact x1.setC _, ⟨w.o0, w.o1, fun y hy => ?_, by omega, by omega, by simp at k2 ⊢; omega⟩⟩, ?_, ?_⟩
    · rcases List.mem_cons.mp hy with rfl | hy
      · exact ⟨(w.o2 s List.mem_cons_self).nm, fun m e => by cases e; exact ⟨qs1, q1'⟩⟩
      · exact w.o2 y (List.mem_cons_of_mem _ hy)
    · rw [hg]
      exact (s1.frame (S := [c]) (Fr.set (by simp)) (by simp; have := x.c3; omega) (by simp; have := x.c3; omega) (by simp; have := x.c3; omega))
    · rw [hg]
      have f2 := fr.trans f1
      refine ⟨by simp; have := f2.len; omega, fun j hj hl => ?_⟩
      have := far.c
      rw [List.getElem?_set_ne (by omega), f2.at_ j hj hl]
theorem bent5 (h5 : tbl 5 = F_law_mix) (h6 : tbl 6 = F_law_draw) (x : L3s h n a b c l0 l1 l2) (w : WL l0 l1 l2) (k0 : l0.length ≤ 4) (k1 : l1.length ≤ 4) (k2 : l2.length ≤ 4) (far : Far3 h0 n a b c) (st : St h 2 0 1 B) (hB : B + 8 ≤ 2 ^ 20) (fr : Fr [2, 0] h0 h) {o5 : Option PV} {m : Nat} (q : ∀ g, BN h0 (B + 8) n g → Q (.ref n) g) {t : Int} : (exSs (call tbl (k + 2)) bentS (bentE m n t 5 o5) h).Sat (fun _ _ => False) Q := by
  unfold bentS bentE
  rw [zad]; simp
  rw [zad]; simp
  rw [zad]; simp
  rw [zad]; simp
  rw [zad]; simp
  try simp
  exact q h ⟨⟨a, b, c, _, _, _, x, w⟩, st.up (by omega), fr⟩
end
end Sb
namespace Sb
open PySem
section
variable {tbl : Nat → Fn} {k B : Nat} {h : PH} {n a b c : Nat} {l0 l1 : List Str} {l2 : List Snd} {Q : PV → PH → Prop}
theorem bent_sat (h5 : tbl 5 = F_law_mix) (h6 : tbl 6 = F_law_draw) (h459 : tbl 459 = F_law_bent_2) (st : St h 2 0 1 B) (hB : B + 60 ≤ 2 ^ 20) (x : L3s h n a b c l0 l1 l2) (w : WL l0 l1 l2) (k0 : l0.length ≤ 4) (k1 : l1.length ≤ 4) (k2 : l2.length ≤ 4)
    (q : ∀ n' a' b' c' m0 m1 m2 g, L3s g n' a' b' c' m0 m1 m2 → WL m0 m1 m2 → St g 2 0 1 (B + 60) → Fr [2, 0] h g → Q (.ref n') g) : (call tbl (k + 3) 459 [.ref 2, .ref n] h).Sat Q := by
  rw [zao, h459]
  refine zbn rfl ?_
  simp only [F_law_bent_2, zax, List.map, List.length, List.replicate, List.cons_append, List.nil_append]
  have h3 : 3 ≤ h.length := by have := st.lt; omega
  rw [zad]
  simp only [x_set]
  refine copies_sat (j := 1) x w rfl (fun v => ⟨_, rfl, rfl⟩) h3 fun n' a' b' c' g1 ln la lb lc f1 x1 => ?_
  simp only [List.set]
  have s1 := st.frame f1 (by simp) (by simp) (by simp)
  rw [zad]
  simp
  refine zbc h5 h6 (k := k) s1 (by omega) (by decide) (by decide) fun t g2 t0 t1 s2 f2 _ => ?_
  try simp
  rw [zad]
  simp
  refine zbc h5 h6 (k := k) s2 (by omega) (by decide) (by decide) fun wy g3 w0 w1 s3 f3 _ => ?_
  try simp
  have x3 := (x1.fr f2 (by simp)).fr f3 (by simp)
  have F : Fr [2, 0] h g3 := (f1.mono (by simp)).trans (f2.trans f3)
  have far : Far3 h n' a' b' c' := ⟨ln, la, lb, lc⟩
  have qq : ∀ g, BN h (B + 8 + 8 + 8) n' g → Q (.ref n') g := fun g bn => by
    obtain ⟨a2, b2, c2, m0, m1, m2, xx, ww⟩ := bn.ex
    exact q n' a2 b2 c2 m0 m1 m2 g xx ww (bn.st.up (by omega)) bn.fr
  suffices hs : (exSs (call tbl (k + 2)) bentS (bentE n n' t wy none) g3).Sat (fun _ _ => False) Q from RS.Sat.imp hs (fun _ _ z => z.elim) fun _ _ z => z
  have ht : t = 0 ∨ t = 1 ∨ t = 2 := by omega
  have hw : wy = 0 ∨ wy = 1 ∨ wy = 2 ∨ wy = 3 ∨ wy = 4 ∨ wy = 5 := by omega
  have hB' : B + 8 + 8 + 8 ≤ 2 ^ 20 := by omega
  rcases hw with rfl | rfl | rfl | rfl | rfl | rfl
  · rcases ht with rfl | rfl | rfl
    · exact bent0_0 h5 h6 x3 w k0 k1 k2 far s3 hB' F qq
    · exact bent0_1 h5 h6 x3 w k0 k1 k2 far s3 hB' F qq
    · exact bent0_2 h5 h6 x3 w k0 k1 k2 far s3 hB' F qq
  · rcases ht with rfl | rfl | rfl
    · exact bent1_0 h5 h6 x3 w k0 k1 k2 far s3 hB' F qq
    · exact bent1_1 h5 h6 x3 w k0 k1 k2 far s3 hB' F qq
    · exact bent1_2 h5 h6 x3 w k0 k1 k2 far s3 hB' F qq
  · exact bent2 h5 h6 x3 w k0 k1 k2 far s3 hB' F qq
  · rcases ht with rfl | rfl | rfl
    · exact bent3_0 h5 h6 x3 w k0 k1 k2 far s3 hB' F qq
    · exact bent3_1 h5 h6 x3 w k0 k1 k2 far s3 hB' F qq
    · exact bent3_2 h5 h6 x3 w k0 k1 k2 far s3 hB' F qq
  · exact bent4 h5 h6 x3 w k0 k1 k2 far s3 hB' F qq
  · exact bent5 h5 h6 x3 w k0 k1 k2 far s3 hB' F qq
theorem oeq_t {C : Calls} {ρ : Env} {ne t : Bool} {e1 e2 : E} : evG C (.oeq "News" 460 ne e1 e2) t ρ h = fin t (evG C (.oeq "News" 460 ne e1 e2) false ρ h) := by
  cases t with
  | false => rfl
  | true =>
    rw [evG, evG]
    rfl
theorem oeq_sat {C : Calls} {ρ : Env} {ne : Bool} {e1 e2 : E} (g1 : evG C e1 false ρ h = .ok (.ref n) h) (s2 : (evG C e2 false ρ h).Sat fun v h2 => ∃ a b c l0 l1 l2 bb r, NW h2 n a b c l0 l1 l2 ∧ isInsP "News" h2 v = some bb ∧ C 460 [.ref n, v] h2 = .ok (.bl r) h2 ∧ Q (.bl (if ne then !r else r)) h2) : (evG C (.oeq "News" 460 ne e1 e2) false ρ h).Sat Q := by
  obtain ⟨v, h2, e, a, b, c, l0, l1, l2, bb, r, x, hi, hc, q⟩ := s2.ex
  rw [oeqN g1 e x hi hc]
  exact q
/-- what is made of what three rows hold -/
theorem make_sat {ρ : Env} {j : Nat} (h211 : tbl 211 = F_News_init) (x : L3s h n a b c l0 l1 l2) (w : WL l0 l1 l2) (hj : ρ.get j = some (.ref n)) (q : ∀ m a' b' c' g, h.length ≤ m → h.length ≤ a' → h.length ≤ b' → h.length ≤ c' → Fr [] h g → NW g m a' b' c' l0 l1 l2 → Q (.ref m) g) :
    (evG (call tbl (k + 1)) (.make "News" 211 [(.idx (.var j) (.lit (.int 0))), (.idx (.var j) (.lit (.int 1))), (.idx (.var j) (.lit (.int 2)))] []) false ρ h).Sat Q := by
  have h3 : 3 ≤ h.length := by have := zah x.top; have := x.n3; omega
  simp [hj, x.i0, x.i1, x.i2]
  exact init_sat h211 (k := k) w h3 (lst_refN (zah x.ha) x.ha) (lst_refN (zah x.hb) x.hb) (lst_refN (zah x.hc) x.hc) q
theorem makeT_sat {ρ : Env} {j : Nat} (h211 : tbl 211 = F_News_init) (x : L3s h n a b c l0 l1 l2) (w : WL l0 l1 l2) (hj : ρ.get j = some (.ref n)) (q : ∀ m a' b' c' g, h.length ≤ m → h.length ≤ a' → h.length ≤ b' → h.length ≤ c' → Fr [] h g → NW g m a' b' c' l0 l1 l2 → Q (.ref m) g) :
    (evG (call tbl (k + 1)) (.make "News" 211 [(.bi .tupleOf [(.idx (.var j) (.lit (.int 0)))]), (.bi .tupleOf [(.idx (.var j) (.lit (.int 1)))]), (.bi .tupleOf [(.idx (.var j) (.lit (.int 2)))])] []) false ρ h).Sat Q := by
  have h3 : 3 ≤ h.length := by have := zah x.top; have := x.n3; omega
  have bt : ∀ (m : Nat) (l : List PV), h[m]? = some (.lst l) → biF .tupleOf [.ref m] h = .ok (.tup l) h := fun m l e => by simp only [biF, biTuple, listOf, e]
  simp [hj, x.i0, x.i1, x.i2, bt _ _ x.ha, bt _ _ x.hb, bt _ _ x.hc]
  exact init_sat h211 (k := k) w h3 lst_tupN lst_tupN lst_tupN q
/-- len of the rows, summed up -/
theorem sum_sat {C : Calls} {ρ : Env} {j : Nat} (x : L3s h n a b c l0 l1 l2) (w : WL l0 l1 l2) (hj : ρ.get j = some (.ref n)) (hset : ∀ v, ∃ ρ1, zbp (wipeP ρ [5]) [5] .one v = some ρ1 ∧ ρ1.get 5 = some v) (q : ∀ t, Q (.int ((l0.length + l1.length + l2.length : Nat) : Int)) (h ++ t)) : (evG C (.bi .sum [(.comp (.bi .len [(.var 5)]) [5] .one .seq [(.var j)] none [5])]) false ρ h).Sat Q := by
  simp only [g_bi, fin_f, zai, gs_cons, gs_nil, zan, R.bind_ok]
  have bl : ∀ (m : Nat) (l : List PV), h[m]? = some (.lst l) → biF .len [.ref m] h = .ok (.int l.length) h := fun m l e => by simp only [biF, biLen, e]
  refine v_filt [(a, l0.length), (b, l1.length), (c, l2.length)] (fun p => .ref p.1) (fun p => .int (p.2 : Nat)) (fun _ => true) (l := [.ref n]) (h1 := h) (by simp [hj]) (walk_ref x.top) (zbh x.top) (by simp) (fun p hp => ?_) ?_
  · obtain ⟨ρ1, e1, e2⟩ := hset (.ref p.1)
    refine ⟨ρ1, e1, by simp, fun _ => ?_⟩
    simp at hp
    rcases hp with rfl | rfl | rfl
    · simp [e2, bl _ _ x.ha]
    · simp [e2, bl _ _ x.hb]
    · simp [e2, bl _ _ x.hc]
  · have e : biF .sum [.ref h.length] (h ++ [PO.lst ((([(a, l0.length), (b, l1.length), (c, l2.length)] : List (Nat × Nat)).filter fun _ => true).map fun p => .int (p.2 : Nat))]) = .ok (.int ((l0.length + l1.length + l2.length : Nat) : Int)) (h ++ [PO.lst ((([(a, l0.length), (b, l1.length), (c, l2.length)] : List (Nat × Nat)).filter fun _ => true).map fun p => .int (p.2 : Nat))]) := by
      simp [biF, biSum, intsOf]
      omega
    rw [e]
    exact q _
/-- the rows and the lists alike -/
theorem eq_rows {n' a' b' c' : Nat} {m0 m1 : List Str} {m2 : List Snd} (x : L3s h n a b c l0 l1 l2) (x' : L3s h n' a' b' c' m0 m1 m2) (w : WL l0 l1 l2) (w' : WL m0 m1 m2) : cmpop .Eq (.ref n) (.ref n') h = .ok (.bl (decide (l0 = m0) && (decide (l1 = m1) && decide (l2 = m2)))) h := by
  show ofO ((eqP h (.ref n) (.ref n')).map PV.bl) h = _
  have p : ∀ {n a b c : Nat} {l0 l1 : List Str} {l2 : List Snd}, L3s h n a b c l0 l1 l2 → WL l0 l1 l2 → pd h 8 (.ref n) = some (.list [.list (l0.map PyData.str), .list (l1.map PyData.str), .list (l2.map sd)]) := fun {n a b c l0 l1 l2} x w => by
    have r0 : pd h 7 (.ref a) = some (.list (l0.map PyData.str)) := by simp only [pd, x.ha, pd_strs fun y hy => (w.o0 y hy).ok]; rfl
    have r1 : pd h 7 (.ref b) = some (.list (l1.map PyData.str)) := by simp only [pd, x.hb, pd_strs fun y hy => (w.o1 y hy).ok]; rfl
    have r2 : pd h 7 (.ref c) = some (.list (l2.map sd)) := by simp only [pd, x.hc, pd_svs (d := 3) w.o2]; rfl
    have e : pd h 8 (.ref n) = (mapO (pd h 7) [.ref a, .ref b, .ref c]).map PyData.list := by
      show (match h[n]? with | some (.lst l) => (mapO (pd h 7) l).map PyData.list | _ => none) = _
      rw [x.top]
    rw [e]
    simp only [mapO, r0, r1, r2]
    rfl
  simp only [eqP, p x w, p x' w', PyData.eqv, PyData.eqvAll, eqv_strs, eqv_sds, Bool.and_true]
  rfl
end
/-- the lists that are handed in, behind so many turns -/
def MoreI (h : PH) (a b c : Nat) (F : Option PV → Env) (i : Nat) (ρ : Env) (g : PH) : Prop := ∃ o, ρ = F o ∧ Fr [a, b, c] h g ∧ ∀ m ∈ [a, b, c], ∃ l, g[m]? = some (.lst l) ∧ l.length ≤ 100 + i
section
variable {tbl : Nat → Fn} {h : PH}
/-- "more" is put behind what was handed in -/
theorem more_sat {C : Calls} {ρ0 ρ1 ρ2 ρ3 ρ4 o5 o6 o7 o8 : Option PV} {n a b c : Nat} {l0 l1 : List Str} {l2 : List Snd} {N : Env → PH → Prop} {T : PV → PH → Prop} (x : L3s h n a b c l0 l1 l2) (w : WL l0 l1 l2) (hn : ρ3 = some (.ref n)) (q : ∀ g o, Fr [a, b, c] h g → N [ρ0, ρ1, ρ2, ρ3, ρ4, o, o6, o7, o8] g) :
    (exS C (.fr [5] .one .seq [(.var 3)] [.ex (.mth .append (.var 5) [(.lit (.str "more"))])]) [ρ0, ρ1, ρ2, ρ3, ρ4, o5, o6, o7, o8] h).Sat N T := by
  have := w.k0
  have := w.k1
  have := w.k2
  refine x_forE (l := [.ref n]) (h1 := h) (by simp [hn]) (walk_ref x.top) (MoreI h a b c fun o => [ρ0, ρ1, ρ2, ρ3, ρ4, o, o6, o7, o8]) ⟨_, rfl, Fr.refl _ _, fun m hm => ?_⟩ ?_ ?_
  · simp at hm
    rcases hm with rfl | rfl | rfl
    · exact ⟨_, x.ha, by simp; omega⟩
    · exact ⟨_, x.hb, by simp; omega⟩
    · exact ⟨_, x.hc, by simp; omega⟩
  · rintro i y ρ g hy ⟨o, rfl, f, hall⟩
    have hi : i < 3 := by simpa using (List.getElem?_eq_some_iff.mp hy).1
    have st : zbf [(n, [PV.ref a, .ref b, .ref c])] g := zbh (f.some (by simp only [List.mem_cons, List.not_mem_nil, or_false, not_or]; exact ⟨x.na, x.nb, x.nc⟩) x.top)
    obtain ⟨m, hm, rfl⟩ : ∃ m ∈ [a, b, c], y = .ref m := by
      have := List.mem_of_getElem? hy
      simp at this
      rcases this with rfl | rfl | rfl
      · exact ⟨_, by simp, rfl⟩
      · exact ⟨_, by simp, rfl⟩
      · exact ⟨_, by simp, rfl⟩
    obtain ⟨l, el, ll⟩ := hall m hm
    refine ⟨st, _, rfl, ?_⟩
    rw [x_one]
    simp [ty_ref el, MT.ty]
    rw [mt_append el (by omega)]
    simp
    refine ⟨_, rfl, f.trans (Fr.set hm), ?_⟩
    have key : ∀ m' ∈ [a, b, c], ∃ l', (g.set m (.lst (l ++ [.str "more"])))[m']? = some (.lst l') ∧ l'.length ≤ 100 + (i + 1) := fun m' hm' => by
      by_cases e : m' = m
      · subst e
        exact ⟨_, by rw [List.getElem?_set_self (zah el)], by simp; omega⟩
      · obtain ⟨l', el', ll'⟩ := hall m' hm'
        exact ⟨l', by rw [List.getElem?_set_ne (Ne.symm e)]; exact el', by omega⟩
    exact key
  · rintro ρ g ⟨o, rfl, f, hall⟩
    exact ⟨zbh (f.some (by simp only [List.mem_cons, List.not_mem_nil, or_false, not_or]; exact ⟨x.na, x.nb, x.nc⟩) x.top), q g o f⟩
end
end Sb
namespace Sb
open PySem
/-- the defs of the law -/
structure T58 (tbl : Nat → Fn) : Prop where
  h4 : tbl 4 = F_law_start
  h5 : tbl 5 = F_law_mix
  h6 : tbl 6 = F_law_draw
  h7 : tbl 7 = F_law_same
  h9 : tbl 9 = F_law_lowest
  h166 : tbl 166 = F_law_part_2
  h167 : tbl 167 = F_law_lists
  h211 : tbl 211 = F_News_init
  h452 : tbl 452 = F_News_len
  h453 : tbl 453 = F_number_written
  h454 : tbl 454 = F_move_text
  h455 : tbl 455 = F_heard_text
  h456 : tbl 456 = F_News_str
  h457 : tbl 457 = F_law_number_3
  h458 : tbl 458 = F_law_text
  h459 : tbl 459 = F_law_bent_2
  h460 : tbl 460 = F_News_eq
  h461 : tbl 461 = F_law_51
section
variable {tbl : Nat → Fn} {k B : Nat} {h : PH} {n a b c f fa fb fc : Nat} {l0 l1 : List Str} {l2 : List Snd}
/-- what is looked at first -/
def look58 : List S := [.ifs (.nt (.call 7 [(.lst [(.fld "News" "came" (.var 4)), (.fld "News" "went" (.var 4)), (.fld "News" "heard" (.var 4))]), (.var 2)] [])) [.ret (.lit (.bl false))] [],
  .ifs (.bor (.nt (.call 7 [(.bi .lenR [.meth "News" "__len__" 452 (.var 4) [] []]), (.bi .sum [(.comp (.bi .len [(.var 5)]) [5] .one .seq [(.var 2)] none [5])])] [])) (.nt (.call 7 [(.bi .strR [.meth "News" "__str__" 456 (.var 4) [] []]), (.call 458 [(.var 2)] [])] []))) [.ret (.lit (.bl false))] []]
/-- .. and behind it -/
def rest58 : List S := [.asg (.nm 6) (.call 459 [(.var 1), (.var 2)] []),
  .asg (.nm 7) (.make "News" 211 [(.idx (.var 6) (.lit (.int 0))), (.idx (.var 6) (.lit (.int 1))), (.idx (.var 6) (.lit (.int 2)))] []),
  .asg (.nm 8) (.cmp .Eq (.var 6) (.var 2)),
  .ifs (.bor (.cmp .NotEq (.oeq "News" 460 false (.var 4) (.var 7)) (.var 8)) (.bor (.cmp .Eq (.oeq "News" 460 true (.var 4) (.var 7)) (.var 8)) (.cmp .NotEq (.oeq "News" 460 false (.var 7) (.var 4)) (.var 8)))) [.ret (.lit (.bl false))] [],
  .ifs (.bor (.oeq "News" 460 false (.var 4) (.var 2)) (.bor (.oeq "News" 460 false (.var 4) (.bi .tupleOf [(.var 2)])) (.bor (.oeq "News" 460 false (.var 4) (.bi .strR [.meth "News" "__str__" 456 (.var 4) [] []])) (.bor (.oeq "News" 460 false (.var 4) (.lit .non)) (.oeq "News" 460 false (.var 4) (.bi .lenR [.meth "News" "__len__" 452 (.var 4) [] []])))))) [.ret (.lit (.bl false))] [],
  .ret (.oeq "News" 460 false (.var 4) (.make "News" 211 [(.idx (.var 2) (.lit (.int 0))), (.idx (.var 2) (.lit (.int 1))), (.idx (.var 2) (.lit (.int 2)))] []))]
/-- str(v), len(v) -/
theorem strO_sat {ρ : Env} {Q : PV → PH → Prop} (T : T58 tbl) (x : NW h f fa fb fc l0 l1 l2) (w : WL l0 l1 l2) (hv : ρ.get 4 = some (.ref f)) (q : ∀ t, Q (.str (Txt.join " " (TX l0 l1 l2))) (h ++ t)) : (evG (call tbl (k + 4)) (.bi .strR [.meth "News" "__str__" 456 (.var 4) [] []]) false ρ h).Sat Q := by
  simp only [g_bi, g_meth, gs_cons, gs_nil, g_var, fin_f, hv, za6, R.bind_ok, zai, zan, insN x (m := "__str__") (by decide +kernel), if_true, List.append_nil]
  exact str_sat T.h453 T.h454 T.h455 T.h456 (k := k) x w fun t => q t
theorem lenO_sat {ρ : Env} {Q : PV → PH → Prop} (T : T58 tbl) (x : NW h f fa fb fc l0 l1 l2) (w : WL l0 l1 l2) (hv : ρ.get 4 = some (.ref f)) (q : ∀ t, Q (.int ((l0.length + l1.length + l2.length : Nat) : Int)) (h ++ t)) : (evG (call tbl (k + 4)) (.bi .lenR [.meth "News" "__len__" 452 (.var 4) [] []]) false ρ h).Sat Q := by
  have := w.k0
  have := w.k1
  have := w.k2
  simp only [g_bi, g_meth, gs_cons, gs_nil, g_var, fin_f, hv, za6, R.bind_ok, zai, zan, insN x (m := "__len__") (by decide +kernel), if_true, List.append_nil]
  refine len_sat T.h452 (k := k + 3) x w fun t => ?_
  have e : biF .lenR [.int ((l0.length + l1.length + l2.length : Nat) : Int)] (h ++ t) = .ok (.int ((l0.length + l1.length + l2.length : Nat) : Int)) (h ++ t) := by
    show (if 0 ≤ ((l0.length + l1.length + l2.length : Nat) : Int) ∧ ((l0.length + l1.length + l2.length : Nat) : Int) ≤ 1000000 then _ else _) = _
    rw [if_pos (by omega)]
  rw [e]
  exact q t
theorem look_sat58 (T : T58 tbl) (x : L3s h n a b c l0 l1 l2) (y : NW h f fa fb fc l0 l1 l2) (w : WL l0 l1 l2) (st : St h 2 0 1 B) {s o3 o5 o6 o7 o8 : Option PV} {N : Env → PH → Prop} {T0 : PV → PH → Prop} (q : ∀ g, L3s g n a b c l0 l1 l2 → NW g f fa fb fc l0 l1 l2 → St g 2 0 1 B → N [s, some (.ref 2), some (.ref n), o3, some (.ref f), o5, o6, o7, o8] g) :
    (exSs (call tbl (k + 7)) look58 [s, some (.ref 2), some (.ref n), o3, some (.ref f), o5, o6, o7, o8] h).Sat N T0 := by
  unfold look58
  have := w.k0
  have := w.k1
  have := w.k2
  have key : ∀ g1, L3s g1 n a b c l0 l1 l2 → NW g1 f fa fb fc l0 l1 l2 → St g1 2 0 1 B → (exSs (call tbl (k + 7)) [.ifs (.bor (.nt (.call 7 [(.bi .lenR [.meth "News" "__len__" 452 (.var 4) [] []]), (.bi .sum [(.comp (.bi .len [(.var 5)]) [5] .one .seq [(.var 2)] none [5])])] [])) (.nt (.call 7 [(.bi .strR [.meth "News" "__str__" 456 (.var 4) [] []]), (.call 458 [(.var 2)] [])] []))) [.ret (.lit (.bl false))] []] [s, some (.ref 2), some (.ref n), o3, some (.ref f), o5, o6, o7, o8] g1).Sat N T0 := fun g1 x1 y1 s1 => by
    rw [x_one, x_if]
    simp only [g_or, g_nt, g_call, zai, gs_cons, gs_nil, sat_fin_t, List.append_nil, R.bind_ok, zan]
    refine lenO_sat T (k := k + 3) y1 w rfl fun t1 => ?_
    have x2 := x1.app (t := t1)
    have y2 := y1.app (t := t1)
    have s2 := s1.app (t := t1)
    generalize g1 ++ t1 = g2 at x2 y2 s2
    try simp only [zai, R.bind_ok, zan]
    refine sum_sat x2 w rfl (fun v => ⟨_, rfl, rfl⟩) fun t2 => ?_
    have x3 := x2.app (t := t2)
    have y3 := y2.app (t := t2)
    have s3 := s2.app (t := t2)
    generalize g2 ++ t2 = g3 at x3 y3 s3
    try simp only [zai, R.bind_ok, zan]
    refine same_sat T.h7 (k := k + 6) (d := 0) (same_int _) fun t3 => ?_
    have x4 := x3.app (t := t3)
    have y4 := y3.app (t := t3)
    have s4 := s3.app (t := t3)
    generalize g3 ++ t3 = g4 at x4 y4 s4
    refine ⟨true, rfl, ?_⟩
    simp only [Bool.not_true, zan, zai, sat_fin_t]
    refine strO_sat T (k := k + 3) y4 w rfl fun t5 => ?_
    have x5 := x4.app (t := t5)
    have y5 := y4.app (t := t5)
    have s5 := s4.app (t := t5)
    generalize g4 ++ t5 = g5 at x5 y5 s5
    simp only [g_call, g_var, gs_cons, gs_nil, fin_f, get0, getS, za6, zai, R.bind_ok, zan, List.append_nil]
    refine text_sat T.h457 T.h458 (k := k + 5) x5 w fun g6 f6 => ?_
    have x6 := x5.fr f6 (by simp)
    have y6 := y5.fr f6 (by simp)
    have s6 := s5.frame f6 (by simp) (by simp) (by simp)
    try simp only [zai, R.bind_ok, zan]
    refine same_sat T.h7 (k := k + 6) (d := 0) (same_str _) fun t7 => ?_
    refine ⟨true, rfl, ?_⟩
    simp only [Bool.not_true, zan, x_nil]
    exact q _ x6.app y6.app s6.app
  rw [zad, x_if]
  simp only [g_nt, g_call, gs_cons, gs_nil, g_lst, g_fld, g_var, fin_f, get0, getS, za6, zai, R.bind_ok, zan, List.append_nil, sat_fin_t, fldN y.top (f := "came") rfl, fldN y.top (f := "went") rfl, fldN y.top (f := "heard") rfl]
  rw [zap _ (by simp)]
  simp only [zan]
  have xg := x.app (t := [PO.lst [.ref fa, .ref fb, .ref fc]])
  have yg := y.app (t := [PO.lst [.ref fa, .ref fb, .ref fc]])
  refine same_sat T.h7 (k := k + 1) (d := 5) ⟨_, _, show (h ++ [PO.lst [.ref fa, .ref fb, .ref fc]])[h.length]? = some (.lst [.ref fa, .ref fb, .ref fc]) by simp, xg.top, rfl, by simp, fun i u v hu hv => ?_⟩ fun t1 => ?_
  · have hi : i < 3 := by simpa using (List.getElem?_eq_some_iff.mp hu).1
    have hi' : i = 0 ∨ i = 1 ∨ i = 2 := by omega
    rcases hi' with rfl | rfl | rfl
    · simp at hu hv
      subst hu hv
      exact same_list (d := 3) yg.ha xg.ha (by simp; omega) fun z hz => by
        obtain ⟨z', _, rfl⟩ := List.mem_map.mp hz
        exact same_str _
    · simp at hu hv
      subst hu hv
      exact same_list (d := 3) yg.hb xg.hb (by simp; omega) fun z hz => by
        obtain ⟨z', _, rfl⟩ := List.mem_map.mp hz
        exact same_str _
    · simp at hu hv
      subst hu hv
      exact same_list (d := 3) yg.hc xg.hc (by simp; omega) fun z hz => by
        obtain ⟨z', _, rfl⟩ := List.mem_map.mp hz
        exact same_sv (d := 0) _
  · refine ⟨true, rfl, ?_⟩
    simp only [Bool.not_true, zan, x_nil]
    exact key _ xg.app yg.app ((st.app).app)
/-- == of news and a thing of a built-in type, as a test -/
theorem oth_sat {ρ : Env} {e2 : E} {P : PV → PH → Prop} (T : T58 tbl) (hv : ρ.get 4 = some (.ref f)) (s : (evG (call tbl (k + 1)) e2 false ρ h).Sat fun v h2 => ∃ aa bb cc l0 l1 l2 t, NW h2 f aa bb cc l0 l1 l2 ∧ tyOf h2 v = some t ∧ P (.bl false) h2) : (evG (call tbl (k + 1)) (.oeq "News" 460 false (.var 4) e2) true ρ h).Sat P := by
  rw [oeq_t, sat_fin_t]
  refine oeq_sat (n := f) (by simp [hv]) (s.imp fun v h2 ⟨aa, bb, cc, l0, l1, l2, t, y, ht, p⟩ => ?_)
  have hi : isInsP "News" h2 v = some false := by simp only [isInsP, ht]
  exact ⟨aa, bb, cc, l0, l1, l2, false, false, y, hi, eqX T.h460 hi, false, rfl, p⟩
theorem xs_app {C : Calls} {N : Env → PH → Prop} {T0 : PV → PH → Prop} : ∀ {ss ss2 : List S} {ρ : Env} {h : PH}, (exSs C (ss ++ ss2) ρ h).Sat N T0 = (exSs C ss ρ h).Sat (fun ρ1 h1 => (exSs C ss2 ρ1 h1).Sat N T0) T0
  | [], ss2, ρ, h => by rw [List.nil_append, x_nil]
  | s :: ss, ss2, ρ, h => by
    rw [List.cons_append, zad, zad]
    congr 1
    funext ρ1 h1
    exact xs_app
theorem rest_sat58 (T : T58 tbl) (x : L3s h n a b c l0 l1 l2) (y : NW h f fa fb fc l0 l1 l2) (w : WL l0 l1 l2) (k0 : l0.length ≤ 4) (k1 : l1.length ≤ 4) (k2 : l2.length ≤ 4) (st : St h 2 0 1 B) (hB : B + 60 ≤ 2 ^ 20) {s o3 o5 o6 o7 o8 : Option PV} :
    (exSs (call tbl (k + 7)) rest58 [s, some (.ref 2), some (.ref n), o3, some (.ref f), o5, o6, o7, o8] h).Sat (fun _ _ => False) (fun v _ => v = .bl true) := by
  unfold rest58
  rw [zad]
  simp
  refine bent_sat T.h5 T.h6 T.h459 (k := k + 4) st hB x w k0 k1 k2 fun n' a' b' c' m0 m1 m2 g1 x1' w' s1 f1 => ?_
  try simp
  have x1 := x.fr f1 (by simp)
  have y1 := y.fr f1 (by simp)
  rw [zad]
  simp only [x_set]
  refine make_sat T.h211 (k := k + 6) x1' w' rfl fun r ra rb rc g2 _ _ _ _ f2 z2 => ?_
  simp only [List.set]
  have x2 := x1.fr f2 (by simp)
  have y2 := y1.fr f2 (by simp)
  have x2' := x1'.fr f2 (by simp)
  have s2 := s1.frame f2 (by simp) (by simp) (by simp)
  rw [zad]
  simp [eq_rows x2' x2 w' w]
  obtain ⟨al, hal⟩ : ∃ al, al = (decide (m0 = l0) && (decide (m1 = l1) && decide (m2 = l2))) := ⟨_, rfl⟩
  have hal' : al = (decide (l0 = m0) && (decide (l1 = m1) && decide (l2 = m2))) := by
    rw [hal]
    congr 1
    · exact decide_eq_decide.mpr eq_comm
    · congr 1
      · exact decide_eq_decide.mpr eq_comm
      · exact decide_eq_decide.mpr eq_comm
  rw [← hal]
  have isN : ∀ {g : PH} {m a b c : Nat} {l0 l1 : List Str} {l2 : List Snd}, NW g m a b c l0 l1 l2 → isInsP "News" g (.ref m) = some true := fun {g m a b c l0 l1 l2} z => by
    have ht : tyOf g (.ref m) = none := by simp only [tyOf, z.top]
    simp only [isInsP, ht, z.top, if_true]
  have c1 := eqN T.h460 (k := k + 6) y2 z2 w w'
  have c2 := eqN T.h460 (k := k + 6) z2 y2 w' w
  rw [← hal'] at c1
  rw [← hal] at c2
  have e1 : ∀ t, evG (call tbl (k + 7)) (.oeq "News" 460 false (.var 4) (.var 7)) t [s, some (.ref 2), some (.ref n), o3, some (.ref f), o5, some (.ref n'), some (.ref r), some (.bl al)] g2 = fin t (.ok (.bl al) g2) := fun t => by
    rw [oeq_t, oeqN (h1 := g2) (h2 := g2) (n := f) (v := .ref r) (by simp) (by simp) y2 (isN z2) c1]
    rfl
  have e2 : ∀ t, evG (call tbl (k + 7)) (.oeq "News" 460 true (.var 4) (.var 7)) t [s, some (.ref 2), some (.ref n), o3, some (.ref f), o5, some (.ref n'), some (.ref r), some (.bl al)] g2 = fin t (.ok (.bl (!al)) g2) := fun t => by
    rw [oeq_t, oeqN (h1 := g2) (h2 := g2) (n := f) (v := .ref r) (by simp) (by simp) y2 (isN z2) c1]
    rfl
  have e3 : ∀ t, evG (call tbl (k + 7)) (.oeq "News" 460 false (.var 7) (.var 4)) t [s, some (.ref 2), some (.ref n), o3, some (.ref f), o5, some (.ref n'), some (.ref r), some (.bl al)] g2 = fin t (.ok (.bl al) g2) := fun t => by
    rw [oeq_t, oeqN (h1 := g2) (h2 := g2) (n := r) (v := .ref f) (by simp) (by simp) z2 (isN y2) c2]
    rfl
  rw [zad]
  simp [e1, e2, e3]
  rw [zad, x_if]
  simp only [g_or, zai]
  refine oth_sat T (k := k + 6) rfl ?_
  simp only [g_var, get0, getS, fin_f, za6, zan]
  refine ⟨_, _, _, _, _, _, _, y2, ty_ref x2.top, ?_⟩
  simp only [zai]
  refine oth_sat T (k := k + 6) rfl ?_
  have bt : biF .tupleOf [.ref n] g2 = .ok (.tup [.ref a, .ref b, .ref c]) g2 := by simp only [biF, biTuple, listOf, x2.top]
  simp only [g_bi, gs_cons, gs_nil, g_var, get0, getS, fin_f, za6, R.bind_ok, bt, zan]
  refine ⟨_, _, _, _, _, _, .tuple, y2, rfl, ?_⟩
  simp only [zai]
  refine oth_sat T (k := k + 6) rfl ?_
  refine strO_sat T (k := k + 3) y2 w rfl fun t1 => ?_
  have x3 := x2.app (t := t1)
  have y3 := y2.app (t := t1)
  generalize g2 ++ t1 = g3 at x3 y3
  refine ⟨_, _, _, _, _, _, .str, y3, rfl, ?_⟩
  simp only [zai]
  refine oth_sat T (k := k + 6) rfl ?_
  simp only [g_lit, fin_f, zan]
  refine ⟨_, _, _, _, _, _, .none, y3, rfl, ?_⟩
  refine oth_sat T (k := k + 6) rfl ?_
  refine lenO_sat T (k := k + 3) y3 w rfl fun t2 => ?_
  have x4 := x3.app (t := t2)
  have y4 := y3.app (t := t2)
  generalize g3 ++ t2 = g4 at x4 y4
  refine ⟨_, _, _, _, _, _, .int, y4, rfl, ?_⟩
  simp only [x_nil]
  rw [x_one, x_ret]
  refine oeq_sat (n := f) rfl ?_
  refine make_sat T.h211 (k := k + 6) x4 w rfl fun r2 ra2 rb2 rc2 g5 _ _ _ _ f5 z5 => ?_
  have y5 := y4.fr f5 (by simp)
  refine ⟨_, _, _, _, _, _, _, _, y5, isN z5, eqN T.h460 (k := k + 6) y5 z5 w w, ?_⟩
  simp
theorem k58_true (T : T58 tbl) (ns : List Int) (hn : ns.length ≤ 63) : (call tbl 24 461 [.cl (ns.map PV.int)] []).Sat fun v _ => v = .bl true := by
  rw [zao, T.h461]
  refine zbn rfl ?_
  simp only [F_law_51, zax, List.map, List.length, List.replicate, List.cons_append, List.nil_append]
  rw [zad]
  simp
  refine kstart T.h4 (k := 22) hn fun h0 K0 _ => ?_
  try simp
  rw [zad]
  simp
  refine lists_sat T.h5 T.h6 T.h9 T.h166 T.h167 (k := 19) K0.st (by decide) fun n a b c l0 l1 l2 g1 _ _ _ _ x1 w k0 k1 k2 s1 f1 => ?_
  try simp
  rw [zad]
  simp only [x_set]
  have h3 : 3 ≤ g1.length := by have := s1.lt; omega
  refine copies_sat (j := 2) x1 w rfl (fun v => ⟨_, rfl, rfl⟩) h3 fun n2 a2 b2 c2 g2 ln la lb lc f2 x2' => ?_
  simp only [List.set]
  have x2 := x1.fr f2 (by simp)
  have s2 := s1.frame f2 (by simp) (by simp) (by simp)
  have d1 := zah x1.top
  have d2 := zah x1.ha
  have d3 := zah x1.hb
  have d4 := zah x1.hc
  have d5 := zah x2'.top
  have d6 := zah x2'.ha
  have d7 := zah x2'.hb
  have d8 := zah x2'.hc
  rw [zad]
  simp only [x_set]
  refine make_sat T.h211 (k := 22) x2' w rfl fun f fa fb fc g3 lf lfa lfb lfc f3 y3 => ?_
  simp only [List.set]
  have x3 := x2.fr f3 (by simp)
  have x3' := x2'.fr f3 (by simp)
  have s3 := s2.frame f3 (by simp) (by simp) (by simp)
  have fin : ∀ (g : PH) (f fa fb fc : Nat) (o5 : Option PV), g2.length ≤ f → g2.length ≤ fa → g2.length ≤ fb → g2.length ≤ fc → L3s g n a b c l0 l1 l2 → L3s g n2 a2 b2 c2 l0 l1 l2 → NW g f fa fb fc l0 l1 l2 → St g 2 0 1 1000 →
      (exSs (call tbl 23) (.fr [5] .one .seq [(.var 3)] [.ex (.mth .append (.var 5) [(.lit (.str "more"))])] :: (look58 ++ rest58)) [some (.cl (ns.map PV.int)), some (.ref 2), some (.ref n), some (.ref n2), some (.ref f), o5, none, none, none] g).Sat (fun _ _ => False) (fun v _ => v = .bl true) := fun g f fa fb fc o5 lf lfa lfb lfc x x' y s => by
    rw [zad]
    refine more_sat x' w rfl fun g' o F => ?_
    have hx : ∀ m ∈ [a2, b2, c2], m < 3 ∨ (m ≠ n ∧ m ≠ a ∧ m ≠ b ∧ m ≠ c) := fun m hm => by
      simp at hm
      omega
    have hy : ∀ m ∈ [a2, b2, c2], m < 3 ∨ (m ≠ f ∧ m ≠ fa ∧ m ≠ fb ∧ m ≠ fc) := fun m hm => by
      simp at hm
      omega
    have xx := x.fr F hx
    have yy := y.fr F hy
    have ss := s.frame F (by simp; omega) (by simp; omega) (by simp; omega)
    rw [xs_app]
    exact look_sat58 T (k := 16) xx yy w ss fun g'' x'' y'' s'' => rest_sat58 T (k := 16) x'' y'' w k0 k1 (by omega) s'' (by decide)
  suffices hs : (exSs (call tbl 23) (.ifs (.cmp .Eq (.call 6 [(.var 1), (.lit (.int 2))] []) (.lit (.int 1))) [.asg (.nm 4) (.make "News" 211 [(.bi .tupleOf [(.idx (.var 3) (.lit (.int 0)))]), (.bi .tupleOf [(.idx (.var 3) (.lit (.int 1)))]), (.bi .tupleOf [(.idx (.var 3) (.lit (.int 2)))])] [])] [] :: .fr [5] .one .seq [(.var 3)] [.ex (.mth .append (.var 5) [(.lit (.str "more"))])] :: (look58 ++ rest58)) [some (.cl (ns.map PV.int)), some (.ref 2), some (.ref n), some (.ref n2), some (.ref f), none, none, none, none] g3).Sat (fun _ _ => False) (fun v _ => v = .bl true) from RS.Sat.imp hs (fun _ _ z => z.elim) fun _ _ z => z
  rw [zad, x_if]
  simp only [g_cmp, g_call, gs_cons, gs_nil, g_var, g_lit, fin_f, get0, getS, za6, zai, R.bind_ok, zan, List.append_nil, sat_fin_t]
  refine zbc T.h5 T.h6 (k := 21) s3 (by decide) (by decide) (by decide) fun u g4 u0 u1 s4 f4 _ => ?_
  have x4 := x3.fr f4 (by simp)
  have x4' := x3'.fr f4 (by simp)
  have y4 := y3.fr f4 (by simp)
  have lg4 := f4.len
  have lg3 := f3.len
  simp only [zan, c_eqI, R.bind_ok]
  refine ⟨decide (u = 1), rfl, ?_⟩
  by_cases hu : u = 1
  · rw [decide_eq_true hu]
    simp only
    rw [x_one]
    simp only [x_set]
    refine makeT_sat T.h211 (k := 22) x4' w rfl fun f' fa' fb' fc' g5 lf' lfa' lfb' lfc' f5 y5 => ?_
    simp only [List.set]
    exact fin g5 f' fa' fb' fc' none (by omega) (by omega) (by omega) (by omega) (x4.fr f5 (by simp)) (x4'.fr f5 (by simp)) y5 ((s4.frame f5 (by simp) (by simp) (by simp)).up (by omega))
  · rw [decide_eq_false hu]
    simp only [x_nil]
    exact fin g4 f fa fb fc none lf lfa lfb lfc x4 x4' y4 (s4.up (by omega))
end
end Sb
namespace Sb
theorem law_true : ∀ ns : List Int, ns.length ≤ 63 → ∃ h, call tbl LV 461 [.cl (ns.map PV.int)] [] = .ok (.bl true) h := fun ns hn => by
  have s : (call tbl 24 461 [.cl (ns.map PV.int)] []).Sat fun v _ => v = .bl true := by
    apply k58_true (tbl := tbl) <;> first | assumption | rfl | (constructor <;> rfl)
  obtain ⟨v, h, e, rfl⟩ := s.ex
  exact ⟨h, e⟩
end Sb
open PySem PySem.W PySem.Calls PyProof.Rows
set_option maxHeartbeats 0 in
theorem PySem.Challenge.cw_scalebook_k58_news_objects_holds : PySem.Challenge.rw_scalebook_k58_news_objects.Holds := by
  refine Sb.early ?hc
  case hc =>
    refine Sb.walk_ofT (l := PySem.Challenge.rw_scalebook_k58_news_objects) (n := 63) (k := 2 * Sb.LV + 3) (x := "_law_script") rfl (by decide) (by kernel_rfl) ⟨rfl, by decide, by decide⟩ ?F
    intro w mg mb mean fa h Y TP hmg0
    have G := TP.g
    obtain ⟨K, KX, c, e, D⟩ := Y
    rw [Sb.fns_fst] at c
    have hmg : mg ("law" : PySem.Str) = some (.ref fa) := by
      have e : (HandSHeadRun.topDef (OpenLaw.row PySem.Challenge.rw_scalebook_k58_news_objects).prog 17).name = ("law" : PySem.Str) := by kernel_rfl
      rw [← e]
      exact hmg0
    obtain ⟨fd, hb, hF⟩ := Sb.law_fn (P := (PySem.Challenge.rw_scalebook_k58_news_objects).prog) (w := w) KX G hmg c e D
    have tt : ∀ p ∈ Sb.tabCs K, CodeHd h p.1 p.2 ∧ h.get? p.2 = some (tabObj #[]) := fun p hp => by
      obtain ⟨x, hx, e1⟩ := Sb.tabCs_tab hp
      rcases (Sb.tabB_parts (Sb.hex_tab e)).2.2.2 x hx with z | z
      · exact absurd z (by simp)
      · rw [z] at e1
        cases e1
    exact ⟨K, fd, _, Sb.tabCs K, KX, fun p hp => (tt p hp).2, Sb.tabB_none (Sb.hex_tab e), fun p hp => (tt p hp).1, hb, fun H a ns hl hO hT hS => Sb.law_endT Sb.law_true H a ns hl hO hT hS, hF⟩
