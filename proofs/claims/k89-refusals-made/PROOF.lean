import PyProof.Rows.All
import Wide.All
import OpenK.AllK
import Wide.FinOn
import HandS.ForMost
import HandS.IsInst
import HandS.Wide
import HandS.Flow
import HandS.NoneIn
import HandS.Deep
import HandS.SetKeys
import HandS.DictComp
import HandS.TupAny
import KE.SortData
import KE.DatumOrd
import HandS.HeadHook1
import HandS.HeadHook2
import HandS.Lambda
import KE.KNest
import HandS.Defaults
import HandS.Head0
import HandS.Head1
import HandS.Head2
import HandS.HeadEnd
import HandS.EndTab
import HandS.ExcInit
import HandS.ExcCtx
import HandS.HotCalls
import HandS.ExcField
import KE.KExcIs
import KE.DataFind
import HandS.HeadHook3
import PySem.Challenge.RW_scalebook_k89_refusals_made
import HandS.ExcValue
import HandS.Zip
import KE.KEqDict
import HandS.Style
import HandS.TupMul
import PyProof.Rows.StrMeet
import HandS.Exc
import HandS.ExcOwn
import HandS.WordsExc
import HandS.CallSlots
import HandS.ExcInitHot
import HandS.ExcIs
import KE.KSortKey
import KE.KSortTupG
import HandS.SortKw
import KE.KUnpackStar
import HandS.SetBool
import HandS.SetFor
import KE.KDictZip
import PyProof.DictUpdate
import HandS.MakeKw
import KE.GoesMore
import KE.GoesZip
import HandS.OwnEq
import HandS.More
import KE.KDictPairs
import HandS.Conv
import HandS.Hot
import HandS.Comp
import HandS.Set
import HandS.Strs
import PyProof.Rows.SortShellAny
import PyProof.Rows.SeqMore
set_option Elab.async false
set_option linter.all false
set_option maxRecDepth 100000
set_option maxHeartbeats 4000000
namespace Sb
open PySem
inductive Ty where
  | none | bool | int | str | tuple | list | dict | set
  deriving DecidableEq
def Ty.nm : Ty → String
  | .none => "NoneType" | .bool => "bool" | .int => "int" | .str => "str" | .tuple => "tuple" | .list => "list" | .dict => "dict" | .set => "set"
inductive PV where
  | non | bl (b : Bool) | int (i : Int) | str (x : Str) | tup (l : List PV) | ref (n : Nat) | cl (l : List PV) | ty (t : Ty)
  /-- a class of the program; an exception that is handled -/
  | cls (x : Str) | xc (x : Str) (ns : List Str) (vs : List PV)
  /-- a set of ints and texts (never changed) -/
  | ste (l : List L2.Key)
  /-- an exception that was made, not raised: its class, its fields (newest first), their values -/
  | exv (x : Str) (ns : List Str) (vs : List PV)
inductive PO where
  | lst (l : List PV)
  /-- a dict by ints and texts -/
  | dct (l : List (L2.Key × PV))
  /-- an instance of an own class -/
  | obj (c : Str) (fs : List (Str × PV))
  /-- a dict by tuples of ints and texts -/
  | dtp (l : List (List L2.Key × PV))
abbrev PH := List PO
structure Exn where
  cls : Str
  ns : List Str
  vs : List PV
inductive R (α : Type) where
  | ok (a : α) (h : PH)
  | ex (x : Exn) (h : PH)
  | no
def R.bind {α β : Type} (m : R α) (f : α → PH → R β) : R β :=
  match m with
  | .ok a h => f a h
  | .ex x h => .ex x h
  | .no => .no
@[simp] theorem R.bind_ok {α β : Type} (a : α) (h : PH) (f : α → PH → R β) : (R.ok a h).bind f = f a h := rfl
@[simp] theorem R.bind_ex {α β : Type} (x : Exn) (h : PH) (f : α → PH → R β) : (R.ex x h : R α).bind f = .ex x h := rfl
@[simp] theorem R.bind_no {α β : Type} (f : α → PH → R β) : (R.no : R α).bind f = .no := rfl
/-- a value that may not be there -/
def ofO {α : Type} (o : Option α) (h : PH) : R α := match o with | some a => .ok a h | none => .no
@[simp] theorem ofO_some {α : Type} (a : α) (h : PH) : ofO (some a) h = .ok a h := rfl
@[simp] theorem ofO_none {α : Type} (h : PH) : ofO (none : Option α) h = .no := rfl
/-- no exception is let out -/
def R.calm {α : Type} (m : R α) : R α := match m with | .ok a h => .ok a h | _ => .no
@[simp] theorem R.calm_ok {α : Type} (a : α) (h : PH) : (R.ok a h).calm = .ok a h := rfl
/-- the items of a list (in the heap or constant) or tuple -/
def seqOf (h : PH) : PV → Option (List PV)
  | .tup l => some l
  | .cl l => some l
  | .ref n => match h[n]? with | some (.lst l) => some l | _ => none
  | _ => none
def listOf (h : PH) : PV → Option (List PV)
  | .cl l => some l
  | .ref n => match h[n]? with | some (.lst l) => some l | _ => none
  | _ => none
def tyOf (h : PH) : PV → Option Ty
  | .non => some .none | .bl _ => some .bool | .int _ => some .int | .str _ => some .str | .tup _ => some .tuple | .cl _ => some .list
  | .ref n => match h[n]? with | some (.lst _) => some .list | some (.dct _) => some .dict | _ => none
  | .ty _ => none
  | .cls _ => none
  | .xc _ _ _ => none
  | .ste _ => none
  | .exv _ _ _ => none
def zay (n : Nat) : Bool := decide (n ≤ 1000000)
def truthy (h : PH) : PV → Option Bool
  | .non => some false
  | .bl b => some b
  | .int i => some (i != 0)
  | .str x => if zay x.length then some (decide (0 < x.length)) else none
  | .tup l => some (!l.isEmpty)
  | .cl l => some (!l.isEmpty)
  | .ref n => match h[n]? with | some (.lst l) => some (!l.isEmpty) | some (.dct l) => some (!l.isEmpty) | _ => none
  | .ty _ => none
  | .cls _ => none
  | .xc _ _ _ => none
  | .ste _ => none
  | .exv _ _ _ => none
def alloc (l : List PV) (h : PH) : R PV := if zay l.length then .ok (.ref h.length) (h ++ [.lst l]) else .no
def tupO (l : List PV) (h : PH) : R PV := if zay l.length then .ok (.tup l) h else .no
def mapO {α β : Type} (f : α → Option β) : List α → Option (List β)
  | [] => some []
  | a :: r => match f a, mapO f r with | some b, some s => some (b :: s) | _, _ => none
def strOkP (x : Str) : Bool := x.cps.all (· < 0x110000)
def pd (h : PH) : Nat → PV → Option PyData
  | _, .non => some .none
  | _, .bl b => some (.bool b)
  | _, .int i => some (.int i)
  | _, .str x => if strOkP x then some (.str x) else none
  | n + 1, .tup l => (mapO (pd h n) l).map .tuple
  | n + 1, .cl l => (mapO (pd h n) l).map .list
  | n + 1, .ref m => match h[m]? with | some (.lst l) => (mapO (pd h n) l).map .list | _ => none
  | _, _ => none
def keyOf : PV → Option L2.Key
  | .int i => some (.inl i)
  | .str x => some (.inr x)
  | _ => none
def keyP : L2.Key → PV
  | .inl i => .int i
  | .inr x => .str x
def valP (l : List (L2.Key × PV)) (k : L2.Key) : Option PV := (l.find? fun kv => decide (kv.1 = k)).map (·.2)
/-- == of two values that are data -/
def eqvP (h : PH) (a b : PV) : Bool := match pd h 8 a, pd h 8 b with | some d, some e => PyData.eqv d e | _, _ => false
def dHit (h : PH) (k : List (L2.Key × PV)) (kv : L2.Key × PV) : Bool := match valP k kv.1 with | some v => eqvP h kv.2 v | none => false
/-- == of two dicts whose values are data -/
def dEq (h : PH) (l k : List (L2.Key × PV)) : Option Bool :=
  if (l.all fun kv => (pd h 8 kv.2).isSome) && (k.all fun kv => (pd h 8 kv.2).isSome) then
    some ((l.length == k.length) && l.all (dHit h k))
  else none
def dEqP (h : PH) : PV → PV → Option Bool
  | .ref m, .ref n => (match h[m]?, h[n]? with | some (.dct l), some (.dct k) => dEq h l k | _, _ => none)
  | _, _ => none
def eqP (h : PH) (a b : PV) : Option Bool := match pd h 8 a, pd h 8 b with | some d, some e => some (PyData.eqv d e) | _, _ => dEqP h a b
/-- == of two inner dicts -/
def inEq (h : PH) (p q : PV) : Option Bool := match p, q with
  | .ref m, .ref n => if m = n then some true else dEqP h (.ref m) (.ref n)
  | _, _ => none
def hit2 (h : PH) (k : List (L2.Key × PV)) (kv : L2.Key × PV) : Option Bool := match valP k kv.1 with | some v => inEq h kv.2 v | none => some false
/-- all of them; what lies behind one that is not is asked for, too -/
def allO : List (Option Bool) → Option Bool
  | [] => some true
  | none :: _ => none
  | some b :: r => (allO r).map (b && ·)
/-- == of two dicts whose values are dicts of data -/
def dEq2 (h : PH) (l k : List (L2.Key × PV)) : Option Bool := (allO (l.map (hit2 h k))).map fun r => (l.length == k.length) && r
def dEq2P (h : PH) : PV → PV → Option Bool
  | .ref m, .ref n => (match h[m]?, h[n]? with | some (.dct l), some (.dct k) => dEq2 h l k | _, _ => none)
  | _, _ => none
def putP (l : List (L2.Key × PV)) (k : L2.Key) (v : PV) : List (L2.Key × PV) :=
  if (l.any fun kv => decide (kv.1 = k)) = true then l.map (fun kv => if kv.1 = k then (kv.1, v) else kv) else l ++ [(k, v)]
def mergeP (l more : List (L2.Key × PV)) : List (L2.Key × PV) := more.foldl (fun acc kv => putP acc kv.1 kv.2) l
/-- k1, v1, k2, v2, .. -/
def pairUp : List PV → Option (List (L2.Key × PV))
  | [] => some []
  | [_] => none
  | k :: v :: r => (match keyOf k, pairUp r with | some k, some l => some ((k, v) :: l) | _, _ => none)
/-- a new dict -/
def allocD (l : List (L2.Key × PV)) (h : PH) : R PV := .ok (.ref h.length) (h ++ [.dct l])
/-- x in y -/
def inSeqP (h : PH) (x : PV) (l : List PV) : Option Bool := match pd h 8 x, mapO (pd h 8) l with | some d, some ds => some (ds.any fun z => PyData.eqv z d) | _, _ => none
/-- a sign in a text -/
def signIn (x y : Str) : Option Bool := match x.cps.toList with | [c] => some (decide (c ∈ y.cps.toList)) | _ => none
def inP (h : PH) (x : PV) : PV → Option Bool
  | .str y => match x with | .str z => signIn z y | _ => none
  | .tup l => inSeqP h x l
  | .cl l => inSeqP h x l
  | .ref n => match h[n]? with
    | some (.lst l) => inSeqP h x l
    | some (.dct l) => (keyOf x).map fun k => (valP l k).isSome
    | _ => none
  | .ste l => (keyOf x).map fun k => l.any fun j => decide (j = k)
  | _ => none
def mulOk (i j : Int) : Bool := decide (i.natAbs.log2 + j.natAbs.log2 < 1000000)
def divOk (j : Int) : Bool := decide (j ≠ 0) && decide (j.natAbs.log2 < 9000)
def powOk (i j : Int) : Bool := decide (0 ≤ j) && decide (j ≤ 1000000) && decide (i.natAbs < 2 ^ 64)
def binop (op : Operator) (a b : PV) (h : PH) : R PV :=
  match op, a, b with
  | .Add, .int i, .int j => .ok (.int (i + j)) h
  | .Sub, .int i, .int j => .ok (.int (i - j)) h
  | .Mult, .int i, .int j => if mulOk i j then .ok (.int (i * j)) h else .no
  | .FloorDiv, .int i, .int j => if divOk j then .ok (.int (i.fdiv j)) h else .no
  | .Mod, .int i, .int j => if j = 0 then .no else .ok (.int (i.fmod j)) h
  | .Pow, .int i, .int j => if powOk i j then .ok (.int (i ^ j.toNat)) h else .no
  | .Add, .str x, .str y => if zay (x.length + y.length) then .ok (.str (x ++ y)) h else .no
  | .Add, .ref m, .ref n => match h[m]?, h[n]? with
    | some (.lst l), some (.lst k) => if zay (l.length + k.length) then alloc (l ++ k) h else .no
    | _, _ => .no
  | .Mult, .ref m, .int k => match h[m]? with
    | some (.lst l) => if 0 ≤ k ∧ k ≤ 1000 ∧ l.length ≤ 1000 then .ok (.ref h.length) (h ++ [.lst (List.replicate k.toNat l).flatten]) else .no
    | _ => .no
  | .Add, .tup l, .tup k => if zay (l.length + k.length) then .ok (.tup (l ++ k)) h else .no
  | .Mult, .tup l, .int k => if l ≠ [] ∧ k = 1 then .ok (.tup l) h else if l ≠ [] ∧ k = 0 then .ok (.tup []) h else .no
  | _, _, _ => .no
def ltStr (x y : Str) : Bool := decide (x.cps.toList < y.cps.toList)
def isNonP : PV → Bool
  | .non => true
  | _ => false
def zbi (op : CmpOp) (a b : PV) (h : PH) : R PV :=
  match op, a, b with
  | .Lt, .int i, .int j => .ok (.bl (decide (i < j))) h
  | .LtE, .int i, .int j => .ok (.bl (decide (i ≤ j))) h
  | .Gt, .int i, .int j => .ok (.bl (decide (j < i))) h
  | .GtE, .int i, .int j => .ok (.bl (decide (j ≤ i))) h
  | .Lt, .str x, .str y => .ok (.bl (ltStr x y)) h
  | .Is, x, .non => .ok (.bl (isNonP x)) h
  | .IsNot, x, .non => .ok (.bl (!isNonP x)) h
  | .Is, .bl x, .bl y => .ok (.bl (decide (x = y))) h
  | .IsNot, .bl x, .bl y => .ok (.bl (!decide (x = y))) h
  | .Eq, .str x, .str y => .ok (.bl (decide (x = y))) h
  | .NotEq, .str x, .str y => .ok (.bl (!decide (x = y))) h
  | .Eq, x, y => ofO ((eqP h x y).map .bl) h
  | .NotEq, x, y => ofO ((eqP h x y).map fun b => .bl (!b)) h
  | .In, x, y => ofO ((inP h x y).map .bl) h
  | .NotIn, x, y => ofO ((inP h x y).map fun b => .bl (!b)) h
  | .Gt, .str x, .str y => .ok (.bl (ltStr y x)) h
  | _, _, _ => .no
def idxop (a i : PV) (h : PH) : R PV :=
  match a, i with
  | .str x, .int i => if zay x.length then (match L2.atI x.cps.toList i with | some c => .ok (.str ⟨#[c]⟩) h | none => .no) else .no
  | .ref n, i => (match h[n]? with
    | some (.lst l) => (match i with | .int j => ofO (L2.atI l j) h | _ => .no)
    | some (.dct l) => (match keyOf i with | some k => ofO (valP l k) h | none => .no)
    | _ => .no)
  | .tup l, .int i => ofO (L2.atI l i) h
  | .cl l, .int i => ofO (L2.atI l i) h
  | _, _ => .no
/-- a[lo:hi] -/
def cutP (l : List PV) (lo hi : Option Int) : List PV := (l.drop (HT.sIx l.length 0 lo)).take (HT.sIx l.length l.length hi - HT.sIx l.length 0 lo)
def slcop (a : PV) (lo hi : Option Int) (h : PH) : R PV :=
  match a with
  | .tup l => .ok (.tup (cutP l lo hi)) h
  | a => match listOf h a with
    | some l => .ok (.ref h.length) (h ++ [.lst (cutP l lo hi)])
    | none => .no
def stpop (a st : PV) (h : PH) : R PV :=
  match a, st with
  | .tup [u, w], .int 1 => .ok (.tup [u, w]) h
  | .tup (x :: l), .int (-1) => .ok (.tup (x :: l).reverse) h
  | _, _ => .no
def revop (a : PV) (h : PH) : R PV := match listOf h a with
  | some l => alloc l.reverse h
  | none => .no
def setop (a i v : PV) (h : PH) : Option PH :=
  match a with
  | .ref n => match h[n]? with
    | some (.lst l) => (match i with | .int i => (match L2.ixN l.length i with | some j => some (h.set n (.lst (l.set j v))) | none => none) | _ => none)
    | some (.dct l) => (match keyOf i with | some k => if zay (l.length + 1) then some (h.set n (.dct (putP l k v))) else none | none => none)
    | _ => none
  | _ => none
def valQ (l : List (List L2.Key × PV)) (k : List L2.Key) : Option PV := (l.find? fun kv => decide (kv.1 = k)).map (·.2)
def putQ (l : List (List L2.Key × PV)) (k : List L2.Key) (v : PV) : List (List L2.Key × PV) :=
  if (l.any fun kv => decide (kv.1 = k)) = true then l.map (fun kv => if kv.1 = k then (kv.1, v) else kv) else l ++ [(k, v)]
def keysOfP : List PV → Option (List L2.Key)
  | [] => some []
  | p :: r => match keyOf p, keysOfP r with | some k, some l => some (k :: l) | _, _ => none
/-- d[(..)] -/
def getQ (a : PV) (ks : List PV) (h : PH) : R PV :=
  match a with
  | .ref n => (match h[n]? with
    | some (.dtp l) => (match keysOfP ks with | some k => if zay ks.length then ofO (valQ l k) h else .no | none => .no)
    | _ => .no)
  | _ => .no
/-- d[(..)] = v -/
def setQ (a : PV) (ks : List PV) (v : PV) (h : PH) : Option PH :=
  match a with
  | .ref n => (match h[n]? with
    | some (.dtp l) => (match keysOfP ks with | some k => if zay (l.length + 1) && zay ks.length then some (h.set n (.dtp (putQ l k v))) else none | none => none)
    | _ => none)
  | _ => none
inductive BI where
  | xmk (x : Str) (ns : List Str) | xatA (f : Str) | isx | abs | len | all | any | isinst | tupleOf | listOf | int1 | min2 | max2 | str1 | sorted1 | dictOf | minN | sortSet | dictZip | lenSet | sum | isC | rangeL | sumL
  deriving DecidableEq
inductive MT where
  | count | append | popAt | join | get1 | get2 | setd | clear | insert | index | pop0 | update | popK | reverse | extend | remove
  deriving DecidableEq
def MT.ty : MT → Ty
  | .count => .list | .append => .list | .popAt => .list | .join => .str | .get1 => .dict | .get2 => .dict | .setd => .dict | .clear => .list | .insert => .list | .index => .list | .pop0 => .list | .update => .dict | .popK => .dict | .reverse => .list | .extend => .list | .remove => .list
def isTy : Ty → Ty → Bool
  | .bool, .int => true
  | a, b => decide (a = b)
def boolsOf : List PV → Option (List Bool)
  | [] => some []
  | .bl b :: r => (boolsOf r).map (b :: ·)
  | _ :: _ => none
def tysOf : List PV → Option (List Ty)
  | [] => some []
  | .ty b :: r => (tysOf r).map (b :: ·)
  | _ :: _ => none
def biAbs (as : List PV) (h : PH) : R PV := match as with
  | [.int i] => .ok (.int (if i < 0 then -i else i)) h
  | _ => .no
def biLen (as : List PV) (h : PH) : R PV := match as with
  | [.str x] => if zay x.length then .ok (.int x.length) h else .no
  | [.ref n] => (match h[n]? with | some (.lst l) => .ok (.int l.length) h | some (.dct l) => .ok (.int l.length) h | _ => .no)
  | [.tup l] => .ok (.int l.length) h
  | [.cl l] => .ok (.int l.length) h
  | _ => .no
def strsOf : List PV → Option (List Str)
  | [] => some []
  | .str b :: r => (strsOf r).map (b :: ·)
  | _ :: _ => none
def intsOf : List PV → Option (List Int)
  | [] => some []
  | .int b :: r => (intsOf r).map (b :: ·)
  | _ :: _ => none
def leStr (x y : Str) : Bool := !ltStr y x
def sortS (l : List Str) : List Str := l.mergeSort leStr
def sortI (l : List Int) : List Int := l.mergeSort fun a b => decide (a ≤ b)
/-- by the order of data -/
def isTupD : PyData → Bool
  | .tuple (_ :: _) => true
  | _ => false
def sortableD (ds : List PyData) : Bool := (ds.all fun d => ds.all fun e => PySem.W.alike d e) && (ds.all isTupD && decide (ds.length ≤ 1000))
def sortD (ds : List PyData) (l : List PV) : List PV := ((l.zip ds).mergeSort (PySem.W.dataLe false Prod.snd)).map Prod.fst
/-- sorted(x): texts, ints, a dict's keys (texts); tuples of data -/
def biSorted (as : List PV) (h : PH) : R PV := match as with
  | [.ref n] => (match h[n]? with
    | some (.lst l) => (match strsOf l, intsOf l with
      | some xs, _ => if xs.length < 64 then .ok (.ref h.length) (h ++ [.lst ((sortS xs).map PV.str)]) else .no
      | _, some xs => if xs.length < 64 then .ok (.ref h.length) (h ++ [.lst ((sortI xs).map PV.int)]) else .no
      | _, _ => (match mapO (pd h 8) l with
        | some ds => if sortableD ds then .ok (.ref h.length) (h ++ [.lst (sortD ds l)]) else .no
        | none => .no))
    | some (.dct l) => (match strsOf (l.map fun kv => keyP kv.1) with
      | some xs => if xs.length < 64 then .ok (.ref h.length) (h ++ [.lst ((sortS xs).map PV.str)]) else .no
      | none => .no)
    | _ => .no)
  | _ => .no
def pairsOf : List PV → Option (List (L2.Key × PV))
  | [] => some []
  | .tup [k, v] :: r => (match keyOf k, pairsOf r with | some k, some l => some ((k, v) :: l) | _, _ => none)
  | _ :: _ => none
/-- dict(x): of a dict, of a list of pairs -/
def biDict (as : List PV) (h : PH) : R PV := match as with
  | [.ref n] => (match h[n]? with
    | some (.lst l) => (match pairsOf l with | some kvs => allocD (mergeP [] kvs) h | none => .no)
    | some (.dct l) => allocD l h
    | _ => .no)
  | _ => .no
def biAll (as : List PV) (h : PH) : R PV := match as with
  | [a] => (match (listOf h a).bind boolsOf with | some bs => .ok (.bl (bs.all id)) h | none => .no)
  | _ => .no
def biAny (as : List PV) (h : PH) : R PV := match as with
  | [a] => (match (listOf h a).bind boolsOf with | some bs => .ok (.bl (bs.any id)) h | none => .no)
  | _ => .no
def zb4 (as : List PV) (h : PH) : R PV := match as with
  | [a, .ty t] => (match tyOf h a with | some s => .ok (.bl (isTy s t)) h | none => .no)
  | [a, .tup l] => (match tyOf h a, tysOf l with | some s, some ts => .ok (.bl (ts.any (isTy s))) h | _, _ => .no)
  | _ => .no
/-- the program's own refusals -/
def excAll : List Str := ["NoBottom", "NotJoined", "NoTelling", "NoTie", "BadName", "Taken", "NoSuch", "InUse", "Full", "Far", "Flat", "BadWeight", "SameScale", "Vouched", "NotVouched", "NotSheer", "Clash", "NoText", "NoBook", "NoLevel", "NothingDone", "NoLine"]
/-- is an exception of the class x one of the class c? -/
def isX (x c : Str) : Option Bool := if x ∈ excAll ∧ (c ∈ excAll ∨ c = "BookError" ∨ c = "ValueError") then some (decide (x = c) || decide (c = "BookError") || decide (c = "ValueError")) else none
def biIsx (as : List PV) (h : PH) : R PV := match as with
  | [.xc x _ _, .cls c] => (match isX x c with | some b => .ok (.bl b) h | none => .no)
  | [.exv x _ _, .cls c] => (match isX x c with | some b => .ok (.bl b) h | none => .no)
  | _ => .no
/-- x(e, ..) as a value -/
def biXmk (x : Str) (ns : List Str) (as : List PV) (h : PH) : R PV := match ns with
  | [] => if as.length = 1 then .ok (.exv x [] []) h else .no
  | _ => if as.length = ns.length then .ok (.exv x ns as.reverse) h else .no
/-- e.f of an exception that was made -/
def xfAll : List Str := ["top", "start", "end", "name", "kind", "a", "weight", "part", "row", "voucher"]
def biXat (f : Str) (as : List PV) (h : PH) : R PV := match as with
  | [.exv x ns vs] => if x ∈ excAll ∧ f ∈ xfAll then ofO ((ns.zip vs).lookup f) h else .no
  | _ => .no
def biTuple (as : List PV) (h : PH) : R PV := match as with
  | [.tup l] => .ok (.tup l) h
  | [a] => (match listOf h a with | some l => .ok (.tup l) h | none => .no)
  | _ => .no
def biList (as : List PV) (h : PH) : R PV := match as with
  | [.ref n] => (match h[n]? with
    | some (.lst l) => .ok (.ref h.length) (h ++ [.lst l])
    | some (.dct l) => .ok (.ref h.length) (h ++ [.lst (l.map fun kv => keyP kv.1)])
    | _ => .no)
  | [.tup l] => .ok (.ref h.length) (h ++ [.lst l])
  | [.cl l] => .ok (.ref h.length) (h ++ [.lst l])
  | _ => .no
def biInt (as : List PV) (h : PH) : R PV := match as with
  | [.int i] => .ok (.int i) h
  | [.bl b] => .ok (.int (if b then 1 else 0)) h
  | _ => .no
def biMin2 (as : List PV) (h : PH) : R PV := match as with
  | [.int i, .int j] => .ok (.int (if j < i then j else i)) h
  | [.ref n] => (match h[n]? with
    | some (.lst l) => (match (intsOf l).bind List.min? with | some m => .ok (.int m) h | none => .no)
    | _ => .no)
  | _ => .no
def biMax2 (as : List PV) (h : PH) : R PV := match as with
  | [.int i, .int j] => .ok (.int (if j > i then j else i)) h
  | _ => .no
/-- min(xs, default=None), ints -/
def biMinN (as : List PV) (h : PH) : R PV := match as with
  | [.ref n] => (match h[n]? with
    | some (.lst l) => (match intsOf l with | some xs => .ok (match xs.min? with | some m => .int m | none => .non) h | none => .no)
    | _ => .no)
  | _ => .no
/-- sorted(set(xs)), ints -/
def dedupI : List Int → List Int
  | [] => []
  | x :: r => if x ∈ r then dedupI r else x :: dedupI r
def uniqI (xs : List Int) : List Int := sortI (dedupI xs)
def addS (l : List Str) (k : Str) : List Str := if k ∈ l then l else l ++ [k]
def uniqS (xs : List Str) : List Str := sortS (xs.foldl addS [])
def strSet (l : List PV) (h : PH) : R PV := match strsOf l with
  | some xs => if xs.length ≤ 1000 then .ok (.ref h.length) (h ++ [.lst ((uniqS xs).map PV.str)]) else .no
  | none => .no
def biSortSet (as : List PV) (h : PH) : R PV := match as with
  | [.ref n] => (match h[n]? with
    | some (.lst l) => (match intsOf l with | some xs => if xs.length < 64 then .ok (.ref h.length) (h ++ [.lst ((uniqI xs).map PV.int)]) else .no | none => strSet l h)
    | _ => .no)
  | [.tup l] => strSet l h
  | _ => .no
/-- dict(zip(xs, ys)) -/
def biDictZip (as : List PV) (h : PH) : R PV := match as with
  | [.ref m, .ref n] => (match h[m]?, h[n]? with
    | some (.lst l), some (.lst k) => (match mapO keyOf l with | some ks => allocD (mergeP [] (ks.zip k)) h | none => .no)
    | _, _ => .no)
  | _ => .no
def addK (l : List L2.Key) (k : L2.Key) : List L2.Key := if (l.any fun j => decide (j = k)) = true then l else l ++ [k]
/-- len(set(xs)) -/
def biLenSet (as : List PV) (h : PH) : R PV := match as with
  | [.ref n] => (match h[n]? with
    | some (.lst l) => (match mapO keyOf l with | some ks => if ks.length < 1000 then .ok (.int (ks.foldl addK []).length) h else .no | none => .no)
    | _ => .no)
  | _ => .no
/-- sum(xs), ints -/
def biSum (as : List PV) (h : PH) : R PV := match as with
  | [.ref n] => (match h[n]? with
    | some (.lst l) => (match intsOf l with | some xs => .ok (.int xs.sum) h | none => .no)
    | _ => .no)
  | _ => .no
/-- isinstance(x, c), c a class of the program that is no error -/
def isInsP (c : Str) (h : PH) : PV → Option Bool
  | .ref n => match h[n]? with
    | some (.obj c' _) => some (decide (c' = c))
    | some _ => some false
    | none => none
  | .non => some false
  | .int _ => some false
  | .str _ => some false
  | .tup _ => some false
  | _ => none
def biIsC (as : List PV) (h : PH) : R PV := match as with
  | [a, .cls c] => (match isInsP c h a with | some b => .ok (.bl b) h | none => .no)
  | _ => .no
/-- list(range(a, b)) -/
def biRangeL (as : List PV) (h : PH) : R PV := match as with
  | [.int a, .int b] => if 0 ≤ a ∧ a ≤ 1000 ∧ 0 ≤ b ∧ b ≤ 1000 then .ok (.ref h.length) (h ++ [.lst ((List.range (b - a).toNat).map fun (i : Nat) => PV.int (a + (i : Int)))]) else .no
  | _ => .no
/-- sum(xs, []), xs a list of lists -/
def biSumL (as : List PV) (h : PH) : R PV := match as with
  | [.ref n] => (match h[n]? with
    | some (.lst l) => (match mapO (listOf h) l with | some ls => if ls.flatten.length ≤ 1000 then .ok (.ref h.length) (h ++ [.lst ls.flatten]) else .no | none => .no)
    | _ => .no)
  | _ => .no
def biF : BI → List PV → PH → R PV
  | .xmk x ns => biXmk x ns | .xatA f => biXat f | .isx => biIsx | .abs => biAbs | .len => biLen | .all => biAll | .any => biAny | .isinst => zb4 | .tupleOf => biTuple | .listOf => biList | .int1 => biInt | .min2 => biMin2 | .max2 => biMax2
  | .str1 => fun _ _ => .no
  | .sorted1 => biSorted | .dictOf => biDict | .minN => biMinN | .sortSet => biSortSet | .dictZip => biDictZip | .lenSet => biLenSet | .sum => biSum | .isC => biIsC | .rangeL => biRangeL | .sumL => biSumL
def mtAppend (o : PV) (as : List PV) (h : PH) : R PV := match o, as with
  | .ref n, [v] => (match h[n]? with
    | some (.lst l) => if zay (l.length + 1) then .ok .non (h.set n (.lst (l ++ [v]))) else .no
    | _ => .no)
  | _, _ => .no
/-- bs.count(b), truths alone -/
def mtCount (o : PV) (as : List PV) (h : PH) : R PV := match o, as with
  | .ref n, [.bl b] => (match h[n]? with
    | some (.lst l) => (match boolsOf l with | some bs => .ok (.int ((bs.countP fun c => c == b : Nat))) h | none => .no)
    | _ => .no)
  | _, _ => .no
def mtPopAt (o : PV) (as : List PV) (h : PH) : R PV := match o, as with
  | .ref n, [.int i] => (match h[n]? with
    | some (.lst l) => if 0 ≤ i then (match l[i.toNat]? with | some v => .ok v (h.set n (.lst (l.eraseIdx i.toNat))) | none => .no) else .no
    | _ => .no)
  | _, _ => .no
def mtJoin (o : PV) (as : List PV) (h : PH) : R PV := match o, as with
  | .str sep, [a] => (match (listOf h a).bind strsOf with
    | some ys => if (ys.map (·.length)).sum + ys.length * sep.length ≤ 1000000 then .ok (.str (Txt.join sep ys)) h else .no
    | none => .no)
  | _, _ => .no
def mtGet1 (o : PV) (as : List PV) (h : PH) : R PV := match o, as with
  | .ref n, [k] => (match h[n]?, keyOf k with
    | some (.dct l), some k => .ok ((valP l k).getD .non) h
    | _, _ => .no)
  | _, _ => .no
def mtGet2 (o : PV) (as : List PV) (h : PH) : R PV := match o, as with
  | .ref n, [k, d] => (match h[n]?, keyOf k with
    | some (.dct l), some k => .ok ((valP l k).getD d) h
    | _, _ => .no)
  | _, _ => .no
def mtSetd (o : PV) (as : List PV) (h : PH) : R PV := match o, as with
  | .ref n, [k, d] => (match h[n]?, keyOf k with
    | some (.dct l), some k => if zay (l.length + 1) then (match valP l k with | some v => .ok v h | none => .ok d (h.set n (.dct (putP l k d)))) else .no
    | _, _ => .no)
  | _, _ => .no
def mtClear (o : PV) (as : List PV) (h : PH) : R PV := match o, as with
  | .ref n, [] => (match h[n]? with
    | some (.lst _) => .ok .non (h.set n (.lst []))
    | _ => .no)
  | _, _ => .no
def mtInsert (o : PV) (as : List PV) (h : PH) : R PV := match o, as with
  | .ref n, [.int i, v] => (match h[n]? with
    | some (.lst l) => if zay (l.length + 1) && decide (0 ≤ i) && decide (i < 2 ^ 62) then .ok .non (h.set n (.lst (l.take i.toNat ++ [v] ++ l.drop i.toNat))) else .no
    | _ => .no)
  | _, _ => .no
/-- xs.index(x), where it is there -/
def mtIndex (o : PV) (as : List PV) (h : PH) : R PV := match o, as with
  | .ref n, [v] => (match h[n]? with
    | some (.lst l) => (match pd h 8 v, mapO (pd h 8) l with
      | some d, some ds => (match ds.findIdx? fun z => PyData.eqv z d with | some j => .ok (.int (j : Nat)) h | none => .no)
      | _, _ => .no)
    | _ => .no)
  | _, _ => .no
def mtPop0 (o : PV) (as : List PV) (h : PH) : R PV := match o, as with
  | .ref n, [] => (match h[n]? with
    | some (.lst l) => (match l[l.length - 1]? with | some v => .ok v (h.set n (.lst l.dropLast)) | none => .no)
    | _ => .no)
  | _, _ => .no
/-- d.update(e), another dict -/
def mtUpdate (o : PV) (as : List PV) (h : PH) : R PV := match o, as with
  | .ref m, [.ref n] => (match h[m]?, h[n]? with
    | some (.dct l), some (.dct k) => if m ≠ n ∧ zay (l.length + k.length) = true then .ok .non (h.set m (.dct (mergeP l k))) else .no
    | _, _ => .no)
  | _, _ => .no
/-- d.pop(k), k is there -/
def dropP (l : List (L2.Key × PV)) (k : L2.Key) : List (L2.Key × PV) := l.filter fun kv => !decide (kv.1 = k)
def mtPopK (o : PV) (as : List PV) (h : PH) : R PV := match o, as with
  | .ref n, [k] => (match h[n]?, keyOf k with
    | some (.dct l), some k => (match valP l k with | some v => .ok v (h.set n (.dct (dropP l k))) | none => .no)
    | _, _ => .no)
  | _, _ => .no
def mtReverse (o : PV) (as : List PV) (h : PH) : R PV := match o, as with
  | .ref n, [] => (match h[n]? with
    | some (.lst l) => .ok .non (h.set n (.lst l.reverse))
    | _ => .no)
  | _, _ => .no
def mtExtend (o : PV) (as : List PV) (h : PH) : R PV := match o, as with
  | .ref n, [.ref m] => (match h[n]?, h[m]? with
    | some (.lst l), some (.lst k) => if zay (l.length + k.length) then .ok .non (h.set n (.lst (l ++ k))) else .no
    | _, _ => .no)
  | _, _ => .no
/-- xs.remove(x), where it is there -/
def mtRemove (o : PV) (as : List PV) (h : PH) : R PV := match o, as with
  | .ref n, [v] => (match h[n]? with
    | some (.lst l) => (match pd h 8 v, mapO (pd h 8) l with
      | some d, some ds => (match ds.findIdx? fun z => PyData.eqv z d with | some j => .ok .non (h.set n (.lst (l.eraseIdx j))) | none => .no)
      | _, _ => .no)
    | _ => .no)
  | _, _ => .no
def mtF : MT → PV → List PV → PH → R PV
  | .popK => mtPopK
  | .reverse => mtReverse
  | .extend => mtExtend
  | .remove => mtRemove
  | .count => mtCount
  | .append => mtAppend
  | .popAt => mtPopAt
  | .join => mtJoin
  | .get1 => mtGet1
  | .get2 => mtGet2
  | .setd => mtSetd
  | .clear => mtClear
  | .insert => mtInsert
  | .index => mtIndex
  | .pop0 => mtPop0
  | .update => mtUpdate
def sortKey : PV → Option (Int × Str)
  | .tup l => (match (l[4]? : Option PV), (l[0]? : Option PV) with | some (.int t), some (.str n) => some (t, n) | _, _ => none)
  | _ => none
def leTel (p q : Int × Str) : Bool := decide (q.1 < p.1) || (decide (p.1 = q.1) && leStr p.2 q.2)
def sortT (ks : List (Int × Str)) (l : List PV) : List PV := ((ks.zip l).mergeSort fun p q => leTel p.1 q.1).map (·.2)
def srtop (a : PV) (h : PH) : R PV := match seqOf h a with
  | some l => (match mapO sortKey l with
    | some ks => if decide ks.Nodup && decide (l.length ≤ 1000) then .ok (.ref h.length) (h ++ [.lst (sortT ks l)]) else .no
    | none => .no)
  | none => .no
/-- a row's key: what is read, brought to one bottom, then the name -/
def rowKey (w : Int) : PV → Option (Int × Str)
  | .tup [.str n, .tup [.int a, .int b]] => if divOk b && mulOk a (w.fdiv b) then some (-(a * w.fdiv b), n) else none
  | _ => none
def srtWop (w : Int) (a : PV) (h : PH) : R PV := match seqOf h a with
  | some l => (match mapO (rowKey w) l with
    | some ks => if decide ks.Nodup && decide (l.length ≤ 1000) then .ok (.ref h.length) (h ++ [.lst (sortT ks l)]) else .no
    | none => .no)
  | none => .no
def xatop (a : PV) (f c : Str) (h : PH) : R PV := match a with
  | .xc x ns vs => if x = c then ofO ((ns.zip vs).lookup f) h else .no
  | _ => .no
mutual
def coldV : PV → Bool
  | .xc _ _ _ => false
  | .tup l => coldVs l
  | .cl l => coldVs l
  | .exv _ _ l => coldVs l
  | _ => true
def coldVs : List PV → Bool
  | [] => true
  | p :: r => coldV p && coldVs r
end
def coldO : PO → Bool
  | .lst l => coldVs l
  | .dct l => coldVs (l.map (·.2))
  | .obj _ fs => coldVs (fs.map (·.2))
  | .dtp l => coldVs (l.map (·.2))
/-- is an exception of the class x caught by the class c? -/
def hitX (x c : Str) : Bool := decide (x = c) || decide (c = "BookError")
def fldop (c f : Str) (a : PV) (h : PH) : R PV := match a with
  | .ref n => (match h[n]? with
    | some (.obj c' fs) => if c' = c then ofO (fs.lookup f) h else .no
    | _ => .no)
  | _ => .no
/-- an instance of c that has no field m -/
def insB (c m : Str) (h : PH) : PV → Bool
  | .ref n => (match h[n]? with
    | some (.obj c' fs) => decide (c' = c) && (fs.lookup m).isNone
    | _ => false)
  | _ => false
def putO (f : Str) (v : PV) : List (Str × PV) → List (Str × PV)
  | [] => [(f, v)]
  | (g, x) :: r => if g = f then (g, v) :: r else (g, x) :: putO f v r
def setfld (c f : Str) (a v : PV) (h : PH) : Option PH := match a with
  | .ref n => (match h[n]? with
    | some (.obj c' fs) => if c' = c ∧ fs.length < 100 then some (h.set n (.obj c (putO f v fs))) else none
    | _ => none)
  | _ => none
/-- the first of these that is an instance of c -/
def isNew (v : PV) (n : Nat) (h : PH) : R PV := match v with
  | .non => .ok (.ref n) h
  | _ => .no
inductive ITK where
  | seq | range | zip | zip3 | zipT
  deriving DecidableEq
/-- a target: one name, names for a tuple's items, names and a starred one -/
inductive TgK where
  | one | tup | star | nest
  deriving DecidableEq
inductive E where
  | var (i : Nat)
  | lit (v : PV)
  | bin (op : Operator) (a b : E)
  | neg (a : E)
  | nt (a : E)
  | band (a b : E)
  | bor (a b : E)
  | cmp (op : CmpOp) (a b : E)
  | ite (t a b : E)
  | tup (es : List E)
  | lst (es : List E)
  | idx (a i : E)
  | slc (a : E) (lo hi : Option E)
  | call (f : Nat) (es : List E) (ds : List PV)
  /-- f(e, .., k = v, ..): ix puts the values in the parameters' order -/
  | callk (f : Nat) (es : List E) (ix : List Nat) (ds : List PV)
  | bi (b : BI) (es : List E)
  | mth (m : MT) (o : E) (es : List E)
  | srt (a : E)
  | srtW (a : E) (i : Nat)
  | dct (es : List E)
  | dcomp (k v : E) (tg : List Nat) (one : TgK) (kk : ITK) (its : List E) (cond : Option E) (own : List Nat)
  /-- {x[0] for x in xs} -/
  | firsts (j : Nat)
  /-- {scale: near if mark == far else mark for scale, mark in marks.items()} -/
  | remark (d near far : Nat)
  | comp (elt : E) (tg : List Nat) (one : TgK) (k : ITK) (its : List E) (cond : Option E) (own : List Nat)
  /-- [elt for tg in its for tg1 in its1] -/
  | comp2 (elt : E) (tg : List Nat) (one : TgK) (k : ITK) (its : List E) (tg1 : List Nat) (one1 : TgK) (k1 : ITK) (its1 : List E) (own : List Nat)
  /-- (a, b)[::s] -/
  | stp (a s : E)
  /-- xs[::-1] -/
  | rev (a : E)
  /-- a.f of an exception of the class c -/
  | xat (a : E) (f : Str) (c : Str)
  /-- a.f of an instance of c -/
  | fld (c f : Str) (a : E)
  /-- o.m(es..) of an instance of c; k: m's def -/
  | meth (c m : Str) (k : Nat) (o : E) (es : List E) (ds : List PV)
  /-- c(es..); k: its __init__ -/
  | make (c : Str) (k : Nat) (es : List E) (ds : List PV)
  /-- T[w](es..), T a table of defs -/
  | disp (tb : List (Str × Nat)) (w : E) (es : List E)
  /-- a op b op2 c -/
  | chain (op op2 : CmpOp) (a b c : E)
  /-- dict(x), x a constant of pairs -/
  | dctc (l : List (L2.Key × PV))
  /-- {} that is to be a dict by tuples; d[(..)] -/
  | dtp0
  | idxT (o : E) (ks : List E)
  /-- not a, a any thing -/
  | ntv (a : E)
  /-- a == b (ne: a != b) where a is an instance of c with an own __eq__ -/
  | oeq (c : Str) (k : Nat) (ne : Bool) (a b : E)
  /-- a == b of two dicts whose values are dicts of data -/
  | deq (a b : E)
  /-- isinstance(a, c), a an instance of the own class c -/
  | isc (c : Str) (a : E)
  /-- a or b, a any thing that has a truth -/
  | orv (a b : E)
inductive Tgt where
  | nm (i : Nat)
  | tup (is : List Nat)
  | unl (is : List Nat)
  | sub (o i : E)
  | fld (c f : Str) (o : E)
  /-- a, .., *b = a tuple -/
  | ust (is : List Nat)
  /-- o[i], o2[i2] = a tuple -/
  | sub2 (o i o2 i2 : E)
inductive S where
  | asg (g : Tgt) (e : E)
  | aug (i : Nat) (op : Operator) (e : E)
  | augs (o i : E) (op : Operator) (e : E)
  /-- o.f op= e -/
  | augf (c f : Str) (o : E) (op : Operator) (e : E)
  | ifs (t : E) (a b : List S)
  | whl (t : E) (b : List S)
  | fr (tg : List Nat) (one : TgK) (k : ITK) (its : List E) (b : List S)
  | ret (e : E)
  | ret0
  | ex (e : E)
  | pass
  | brk
  | cont
  /-- raise x(es..), the fields' names newest first -/
  | raise (x : Str) (ns : List Str) (es : List E)
  /-- try: b  except c: s; what b lets out is of xs -/
  | tryN (b : List S) (c : Str) (xs : List Str) (s : List S)
  /-- try: b  except c as e: if fi(e): j = (lit, e.f, ..) | j = (lit, e.f, .., fi(e)): i is e's slot, ns the fields' names, fs those that are read, ex what goes behind -/
  | tryA (b : List S) (c : Str) (xs : List Str) (fi i j : Nat) (lit : Str) (ns fs : List Str) (ex : List PV)
  /-- what is told nothing of -/
  | hole
  /-- o[(..)] = e -/
  | asgT (o : E) (ks : List E) (e : E)
  /-- try: b  except ..: hs are all .hd; what b lets out is of xs -/
  | tryH (b : List S) (xs : List Str) (hs : List S)
  /-- except c as i: b -/
  | hd (c : Str) (i : Option Nat) (b : List S)
structure Fn where
  np : Nat
  ns : Nat
  body : List S
abbrev Env := List (Option PV)
def Env.get (ρ : Env) (i : Nat) : Option PV := match ρ[i]? with | some (some v) => some v | _ => none
def wipeP (ρ : Env) : List Nat → Env
  | [] => ρ
  | i :: r => (wipeP ρ r).set i none
def setAll (ρ : Env) : List Nat → List PV → Option Env
  | [], [] => some ρ
  | i :: is, v :: vs => setAll (ρ.set i (some v)) is vs
  | _, _ => none
/-- a loop's target: one name, or names for a tuple's items -/
def setTg (ρ : Env) (is : List Nat) (one : TgK) (v : PV) : Option Env :=
  match one, is, v with
  | .one, [i], v => some (ρ.set i (some v))
  | .tup, is, .tup l => setAll ρ is l
  | .nest, i :: is, .tup [a, .tup l] => setAll (ρ.set i (some a)) is l
  | .star, is, .tup l => if is.length ≤ l.length + 1 ∧ l.length ≤ 1000 then (match is.getLast? with | some j => (setAll ρ is.dropLast (l.take (is.length - 1))).map fun ρ' => ρ'.set j none | none => none) else none
  | _, _, _ => none
/-- what a loop walks: its items, and what must stay as it is -/
def rangeP (n : Int) : List PV := (List.range n.toNat).map fun i => .int (i : Nat)
end Sb
namespace Sb
open PySem PySem.Spec PyProof.Rows L2
def lamNames : List Str := ["in_order", "_law_in_order", "pegs_of"]
def tabsOf (K : PySem.W.Frag) : List (Addr × Str) := lamNames.filterMap fun x => (PySem.W.tabIn K x).map fun p => (p.2, x ++ ".<locals>." ++ "<lambda>")
abbrev AlE : Type := He.AlD × Bool
def tabCs (K : PySem.W.Frag) : List (Addr × Addr) := lamNames.filterMap fun x => PySem.W.tabIn K x
def tabB (K : PySem.W.Frag) (xs : List Str) : Bool := decide ((tabsOf K).map (·.1)).Nodup && ((tabsOf K).all fun p => (K.lookup p.1).isNone) && (xs.all fun x => (PySem.W.tabIn K x).isSome) && lamNames.all fun x => xs.contains x || (PySem.W.tabIn K x).isNone
def notTab (o : Option Obj) : Bool := match o with
  | some ⟨.none, _, .fields _, _⟩ => false
  | _ => true
def frT (g : Addr → Option Obj) (n : Nat) : PySem.W.Frag := He.frG g (cStatics :: (He.asD g n).filter fun a => notTab (g a))
abbrev AlU : Type := AlE × List (Option (List (Option (Str × Int))))
def tbsU (ts : List (Str × List Str)) (K : PySem.W.Frag) : List (Option (List (Option (Str × Int)))) := ts.map fun t => He.dicW K (He.ga K t.1)
def keyU (ts : List (Str × List Str)) (w : World) : List (Option (List (Option (Str × Int)))) := ts.map fun t => some (He.keysIn w.params t.2)
def obsK (fa : List He.Fa) (fn : List He.DefD) (ex : PySem.W.Frag → Bool) (ts : List (Str × List Str)) (K : PySem.W.Frag) : AlU := ((He.obsD fa fn K, ex K), tbsU ts K)
def hookU (n : Nat) (fa : List He.Fa) (fn : List He.DefD) (ex : PySem.W.Frag → Bool) (ts : List (Str × List Str)) : PySem.W.Hook where
  α := AlU
  obs := fun s => obsK fa fn ex ts (frT s.heap.get? n)
  val := fun w => ((He.valD fn, true), keyU ts w)
  says := fun w h => ∃ K : PySem.W.Frag, K.In h ∧ He.SaysD fa fn K ∧ ex K = true ∧ tbsU ts K = keyU ts w
  of := fun w s e => by
    have e' : ((He.obsD fa fn (frT s.heap.get? n), ex (frT s.heap.get? n)), tbsU ts (frT s.heap.get? n)) = ((He.valD fn, true), keyU ts w) := e
    obtain ⟨e1, e2⟩ := Prod.mk.inj e'
    obtain ⟨e3, e4⟩ := Prod.mk.inj e1
    exact ⟨_, He.frG_in, e3, e4, e2⟩
  keeps := fun _ _ _ ⟨K, hK, c⟩ k => ⟨K, PySem.W.Frag.In.keeps hK k, c⟩
def obsU (n : Nat) (fa : List He.Fa) (fn : List He.DefD) (ex : PySem.W.Frag → Bool) (ts : List (Str × List Str)) (s : PySem.W.SharedT) : AlU := obsK fa fn ex ts (frT (HandSHeadRun.getT s) n)
/-- a class of the program, its fields; a method; its making -/
def clB (K : PySem.W.Frag) (c : Str) (fs : List Str) : Bool := PySem.W.plainGet K (He.ga K c) Str.empty && (PySem.W.hasDictIn K (He.ga K c) && (PySem.W.plainOver K (He.ga K c) && (He.eqO (PySem.W.findIn K (.ref (He.ga K c)) "__setattr__") (some (some (.builtin "object.__setattr__"))) &&
  fs.all fun f => He.eqO (PySem.W.findIn K (.ref (He.ga K c)) f) (some none))))
def bkB (K : PySem.W.Frag) (b : Str) : Bool := He.eqO (PySem.W.nsIn K mainGlobals b) (some (some (.ref (He.ga K b)))) && (He.eqO (PySem.W.specialIn K (.ref (He.ga K b)) "__getattribute__") (some (some (.builtin "type.__getattribute__"))) && (PySem.W.readsIn K (He.ga K b) (.type "type") &&
  (match PySem.W.findCls K (.ref (He.ga K b)) (.type "type") "__init__" with | some (.val (.builtin n)) => decide (n = "ValueError.__init__") | _ => false)))
def oexB (K : PySem.W.Frag) (C : Addr) : Bool := (match K.lookup C with
  | some ⟨.type "type", _, .cls cd, sl⟩ => (match cd.mro, sl.toList with
    | .ref C' :: bm, [_, _, _, _, some (.builtin n), _] => C' == C && n == "ValueError.__new__" && !cd.hasDel && cd.hasDict && PySem.HandSPX.refsVE bm
    | _, _ => false)
  | _ => false) && (He.eqO (PySem.W.findIn K (.ref C) "__setattr__") (some (some (.builtin "object.__setattr__"))) && (decide (PySem.W.subIn K (.ref C) (.type "BaseException") = some true) && (decide (PySem.W.typeIn K (.ref C) = some (.type "type")) && PySem.W.keepIn K (.ref C))))
def xcB (K : PySem.W.Frag) (x : Str) (fs : List Str) : Bool := oexB K (He.ga K x) && (He.eqO (PySem.W.nsIn K mainGlobals x) (some (some (.ref (He.ga K x)))) && (He.eqO (PySem.W.findIn K (.ref (He.ga K x)) "__init__") (some (some (.ref (He.ma K (He.ga K x) "__init__")))) &&
  (decide (PySem.W.typeIn K (.ref (He.ma K (He.ga K x) "__init__")) = some (.type "function")) && fs.all fun f => He.eqO (PySem.W.findIn K (.ref (He.ga K x)) f) (some none))))
def xkB (K : PySem.W.Frag) : Bool := He.eqO (PySem.W.specialIn K (.builtin "object.__class__") "__get__") (some (some (.builtin "getset_descriptor.__get__"))) && (decide (PySem.W.takesIn K (.builtin "object.__class__") = some true) &&
  excAll.all fun x => (PySem.W.clsIn K (He.ga K x)).isSome && (He.eqO (PySem.W.findIn K (.ref (He.ga K x)) "__getattribute__") (some (some (.builtin "BaseException.__getattribute__"))) && (He.eqO (PySem.W.findIn K (.ref (He.ga K x)) "__getattr__") (some none) && (decide (PySem.W.subIn K (.ref (He.ga K x)) (.type "BaseException") = some true) &&
    (He.eqO (PySem.W.findIn K (.ref (He.ga K x)) "__class__") (some (some (.builtin "object.__class__"))) && (decide (PySem.W.mroIn K (He.ga K x) (.type "object") = some true) &&
    ((excAll.all fun c => decide (PySem.W.kitOne K (.ref (He.ga K x)) (.ref (He.ga K c)) = some (decide (x = c)))) && (decide (PySem.W.kitOne K (.ref (He.ga K x)) (.ref (He.ga K "BookError")) = some true) && decide (PySem.W.kitOne K (.ref (He.ga K x)) (.type "ValueError") = some true)))))))))
/-- no class of refusals has an attribute of a field's name -/
def xaB (K : PySem.W.Frag) : Bool := excAll.all fun x => xfB K (He.ga K x) && xfAll.all fun f => He.eqO (PySem.W.findIn K (.ref (He.ga K x)) f) (some none)
end Sb
set_option maxHeartbeats 0
namespace Sb
open PySem PySem.Spec L2
def topS (i : Nat) : Stmt := PySem.Challenge.pw_scalebook_k89_refusals_made.main.body.getD i (.Pass ⟨0, 0, 0, 0⟩)
abbrev za7 : Stmt := topS 25
abbrev zbt : Stmt := topS 26
abbrev s__law_mix : Stmt := topS 27
abbrev zbj : Stmt := topS 28
abbrev zbl : Stmt := topS 29
abbrev zat : Stmt := topS 30
abbrev zbd : Stmt := topS 31
abbrev za0 : Stmt := topS 32
abbrev zaw : Stmt := topS 33
abbrev zbe : Stmt := topS 34
abbrev zbk : Stmt := topS 35
abbrev s_law : Stmt := topS 36
abbrev zbh : Stmt := (match topS 6 with | .ClassDef _ _ _ b .. => b | _ => []).getD 0 (.Pass ⟨0, 0, 0, 0⟩)
abbrev za6 : Stmt := (match topS 13 with | .ClassDef _ _ _ b .. => b | _ => []).getD 0 (.Pass ⟨0, 0, 0, 0⟩)
abbrev zbz : Stmt := (match topS 18 with | .ClassDef _ _ _ b .. => b | _ => []).getD 0 (.Pass ⟨0, 0, 0, 0⟩)
abbrev s_Far_init : Stmt := (match topS 11 with | .ClassDef _ _ _ b .. => b | _ => []).getD 0 (.Pass ⟨0, 0, 0, 0⟩)
abbrev s_Flat_init : Stmt := (match topS 12 with | .ClassDef _ _ _ b .. => b | _ => []).getD 0 (.Pass ⟨0, 0, 0, 0⟩)
abbrev s_Full_init : Stmt := (match topS 10 with | .ClassDef _ _ _ b .. => b | _ => []).getD 0 (.Pass ⟨0, 0, 0, 0⟩)
abbrev zby : Stmt := (match topS 9 with | .ClassDef _ _ _ b .. => b | _ => []).getD 0 (.Pass ⟨0, 0, 0, 0⟩)
abbrev zbo : Stmt := (match topS 20 with | .ClassDef _ _ _ b .. => b | _ => []).getD 0 (.Pass ⟨0, 0, 0, 0⟩)
abbrev zbc : Stmt := (match topS 2 with | .ClassDef _ _ _ b .. => b | _ => []).getD 0 (.Pass ⟨0, 0, 0, 0⟩)
abbrev zbn : Stmt := (match topS 8 with | .ClassDef _ _ _ b .. => b | _ => []).getD 0 (.Pass ⟨0, 0, 0, 0⟩)
abbrev za5 : Stmt := (match topS 4 with | .ClassDef _ _ _ b .. => b | _ => []).getD 0 (.Pass ⟨0, 0, 0, 0⟩)
abbrev zbm : Stmt := (match topS 19 with | .ClassDef _ _ _ b .. => b | _ => []).getD 0 (.Pass ⟨0, 0, 0, 0⟩)
abbrev zbx : Stmt := (match topS 5 with | .ClassDef _ _ _ b .. => b | _ => []).getD 0 (.Pass ⟨0, 0, 0, 0⟩)
abbrev za4 : Stmt := (match topS 3 with | .ClassDef _ _ _ b .. => b | _ => []).getD 0 (.Pass ⟨0, 0, 0, 0⟩)
abbrev zbb : Stmt := (match topS 17 with | .ClassDef _ _ _ b .. => b | _ => []).getD 0 (.Pass ⟨0, 0, 0, 0⟩)
abbrev zaz : Stmt := (match topS 16 with | .ClassDef _ _ _ b .. => b | _ => []).getD 0 (.Pass ⟨0, 0, 0, 0⟩)
abbrev za3 : Stmt := (match topS 14 with | .ClassDef _ _ _ b .. => b | _ => []).getD 0 (.Pass ⟨0, 0, 0, 0⟩)
abbrev zbw : Stmt := (match topS 7 with | .ClassDef _ _ _ b .. => b | _ => []).getD 0 (.Pass ⟨0, 0, 0, 0⟩)
abbrev zbg : Stmt := (match topS 15 with | .ClassDef _ _ _ b .. => b | _ => []).getD 0 (.Pass ⟨0, 0, 0, 0⟩)
def hfa : List He.Fa := [.glo "_law_start", .glo "_law_draw", .glo "_law_mix", .glo "_law_same", .glo "_law_alone", .glo "_law_some_thing", .glo "_law_single", .glo "_law_by_names", .glo "_law_by_places", .glo "_law_fields", .glo "_law_mine", .glo "law", .free "ValueError", .free "all", .free "bool", .free "int", .free "isinstance", .free "len", .free "list", .free "range", .free "str", .free "tuple", .free "zip", .glo "BadName", .glo "BadWeight", .glo "BookError", .glo "Clash", .glo "Far", .glo "Flat", .glo "Full", .glo "InUse", .glo "NoBook", .glo "NoBottom", .glo "NoLevel", .glo "NoLine", .glo "NoSuch", .glo "NoTelling", .glo "NoText", .glo "NoTie", .glo "NotJoined", .glo "NotSheer", .glo "NotVouched", .glo "NothingDone", .glo "SameScale", .glo "Taken", .glo "Vouched", .exc "NoLevel", .exc "NoLine", .exc "NothingDone"]
def d__law_start : He.DefD := ⟨("_law_start", none), "_law_start", "_law_start", defArgs za7, defBody za7, defScope za7, [], []⟩
def d__law_draw : He.DefD := ⟨("_law_draw", none), "_law_draw", "_law_draw", defArgs zbt, defBody zbt, defScope zbt, [], []⟩
def d__law_mix : He.DefD := ⟨("_law_mix", none), "_law_mix", "_law_mix", defArgs s__law_mix, defBody s__law_mix, defScope s__law_mix, [], []⟩
def d__law_same : He.DefD := ⟨("_law_same", none), "_law_same", "_law_same", defArgs zbj, defBody zbj, defScope zbj, [], []⟩
def d__law_alone : He.DefD := ⟨("_law_alone", none), "_law_alone", "_law_alone", defArgs zbl, defBody zbl, defScope zbl, [], []⟩
def d__law_some_thing : He.DefD := ⟨("_law_some_thing", none), "_law_some_thing", "_law_some_thing", defArgs zat, defBody zat, defScope zat, [], []⟩
def d__law_single : He.DefD := ⟨("_law_single", none), "_law_single", "_law_single", defArgs zbd, defBody zbd, defScope zbd, [], []⟩
def d__law_by_names : He.DefD := ⟨("_law_by_names", none), "_law_by_names", "_law_by_names", defArgs za0, defBody za0, defScope za0, [], []⟩
def d__law_by_places : He.DefD := ⟨("_law_by_places", none), "_law_by_places", "_law_by_places", defArgs zaw, defBody zaw, defScope zaw, [], []⟩
def d__law_fields : He.DefD := ⟨("_law_fields", none), "_law_fields", "_law_fields", defArgs zbe, defBody zbe, defScope zbe, [], []⟩
def d__law_mine : He.DefD := ⟨("_law_mine", none), "_law_mine", "_law_mine", defArgs zbk, defBody zbk, defScope zbk, [], []⟩
def d_law : He.DefD := ⟨("law", none), "law", "law", defArgs s_law, defBody s_law, defScope s_law, [], []⟩
def d_BadName_init : He.DefD := ⟨("BadName", some "__init__"), "__init__", "BadName.__init__", defArgs zbh, defBody zbh, defScope zbh, [], []⟩
def d_BadWeight_init : He.DefD := ⟨("BadWeight", some "__init__"), "__init__", "BadWeight.__init__", defArgs za6, defBody za6, defScope za6, [], []⟩
def d_Clash_init : He.DefD := ⟨("Clash", some "__init__"), "__init__", "Clash.__init__", defArgs zbz, defBody zbz, defScope zbz, [], []⟩
def d_Far_init : He.DefD := ⟨("Far", some "__init__"), "__init__", "Far.__init__", defArgs s_Far_init, defBody s_Far_init, defScope s_Far_init, [], []⟩
def d_Flat_init : He.DefD := ⟨("Flat", some "__init__"), "__init__", "Flat.__init__", defArgs s_Flat_init, defBody s_Flat_init, defScope s_Flat_init, [], []⟩
def d_Full_init : He.DefD := ⟨("Full", some "__init__"), "__init__", "Full.__init__", defArgs s_Full_init, defBody s_Full_init, defScope s_Full_init, [], []⟩
def d_InUse_init : He.DefD := ⟨("InUse", some "__init__"), "__init__", "InUse.__init__", defArgs zby, defBody zby, defScope zby, [], []⟩
def d_NoBook_init : He.DefD := ⟨("NoBook", some "__init__"), "__init__", "NoBook.__init__", defArgs zbo, defBody zbo, defScope zbo, [], []⟩
def d_NoBottom_init : He.DefD := ⟨("NoBottom", some "__init__"), "__init__", "NoBottom.__init__", defArgs zbc, defBody zbc, defScope zbc, [], []⟩
def d_NoSuch_init : He.DefD := ⟨("NoSuch", some "__init__"), "__init__", "NoSuch.__init__", defArgs zbn, defBody zbn, defScope zbn, [], []⟩
def d_NoTelling_init : He.DefD := ⟨("NoTelling", some "__init__"), "__init__", "NoTelling.__init__", defArgs za5, defBody za5, defScope za5, [], []⟩
def d_NoText_init : He.DefD := ⟨("NoText", some "__init__"), "__init__", "NoText.__init__", defArgs zbm, defBody zbm, defScope zbm, [], []⟩
def d_NoTie_init : He.DefD := ⟨("NoTie", some "__init__"), "__init__", "NoTie.__init__", defArgs zbx, defBody zbx, defScope zbx, [], []⟩
def d_NotJoined_init : He.DefD := ⟨("NotJoined", some "__init__"), "__init__", "NotJoined.__init__", defArgs za4, defBody za4, defScope za4, [], []⟩
def d_NotSheer_init : He.DefD := ⟨("NotSheer", some "__init__"), "__init__", "NotSheer.__init__", defArgs zbb, defBody zbb, defScope zbb, [], []⟩
def d_NotVouched_init : He.DefD := ⟨("NotVouched", some "__init__"), "__init__", "NotVouched.__init__", defArgs zaz, defBody zaz, defScope zaz, [], []⟩
def d_SameScale_init : He.DefD := ⟨("SameScale", some "__init__"), "__init__", "SameScale.__init__", defArgs za3, defBody za3, defScope za3, [], []⟩
def d_Taken_init : He.DefD := ⟨("Taken", some "__init__"), "__init__", "Taken.__init__", defArgs zbw, defBody zbw, defScope zbw, [], []⟩
def d_Vouched_init : He.DefD := ⟨("Vouched", some "__init__"), "__init__", "Vouched.__init__", defArgs zbg, defBody zbg, defScope zbg, [], []⟩
def hfn : List He.DefD := [d__law_start, d__law_draw, d__law_mix, d__law_same, d__law_alone, d__law_some_thing, d__law_single, d__law_by_names, d__law_by_places, d__law_fields, d__law_mine, d_law, d_BadName_init, d_BadWeight_init, d_Clash_init, d_Far_init, d_Flat_init, d_Full_init, d_InUse_init, d_NoBook_init, d_NoBottom_init, d_NoSuch_init, d_NoTelling_init, d_NoText_init, d_NoTie_init, d_NotJoined_init, d_NotSheer_init, d_NotVouched_init, d_SameScale_init, d_Taken_init, d_Vouched_init]
def hex (K : PySem.W.Frag) : Bool := tabB K [] && bkB K "BookError" && xcB K "BadName" ["name"] && xcB K "BadWeight" ["weight"] && xcB K "Clash" ["kind", "name"] && xcB K "Far" ["kind", "name"] && xcB K "Flat" ["a"] && xcB K "Full" ["kind"] && xcB K "InUse" ["kind", "name"] && xcB K "NoBook" ["name"] && xcB K "NoBottom" ["top"] && xcB K "NoSuch" ["kind", "name"] && xcB K "NoTelling" ["name"] && xcB K "NoText" ["row"] && xcB K "NoTie" ["name"] && xcB K "NotJoined" ["start", "end"] && xcB K "NotSheer" ["part"] && xcB K "NotVouched" ["voucher", "name"] && xcB K "SameScale" ["name"] && xcB K "Taken" ["kind", "name"] && xcB K "Vouched" ["voucher", "name"] && xkB K && xaB K
abbrev Rr : PySem.W.OpenRow := PySem.W.OpenLaw.row PySem.Challenge.rw_scalebook_k89_refusals_made
def loose : List PySem.Str := [("BookError" : PySem.Str), ("NoBottom" : PySem.Str), ("NotJoined" : PySem.Str), ("NoTelling" : PySem.Str), ("NoTie" : PySem.Str), ("BadName" : PySem.Str), ("Taken" : PySem.Str), ("NoSuch" : PySem.Str), ("InUse" : PySem.Str), ("Full" : PySem.Str), ("Far" : PySem.Str), ("Flat" : PySem.Str), ("BadWeight" : PySem.Str), ("SameScale" : PySem.Str), ("Vouched" : PySem.Str), ("NotVouched" : PySem.Str), ("NotSheer" : PySem.Str), ("Clash" : PySem.Str), ("NoText" : PySem.Str), ("NoBook" : PySem.Str), ("NoLevel" : PySem.Str), ("NothingDone" : PySem.Str), ("NoLine" : PySem.Str), ("_law_start" : PySem.Str), ("_law_draw" : PySem.Str), ("_law_mix" : PySem.Str), ("_law_same" : PySem.Str), ("_law_alone" : PySem.Str), ("_law_some_thing" : PySem.Str), ("_law_single" : PySem.Str), ("_law_by_names" : PySem.Str), ("_law_by_places" : PySem.Str), ("_law_fields" : PySem.Str), ("_law_mine" : PySem.Str)]
def hts : List (Str × List Str) := []
theorem run (w : World) : HandSHeadRun.RunEq Rr (PySem.W.view Rr.prog [36]) (hookU 5 hfa hfn hex hts) (obsU 5 hfa hfn hex hts) 9000 loose w := by
  intro os
  kernel_rfl
end Sb
set_option maxHeartbeats 4000000
namespace Sb
open PySem
/-- what two zipped things give -/
def zipP : List PV → List PV → List PV
  | a :: as, b :: bs => .tup [a, b] :: zipP as bs
  | _, _ => []
def zipP3 : List PV → List PV → List PV → List PV
  | a :: as, b :: bs, c :: cs => .tup [a, b, c] :: zipP3 as bs cs
  | _, _, _ => []
abbrev Keep := List (Nat × List PV)
def zbs (kp : Keep) (h : PH) : Prop := ∀ p ∈ kp, h[p.1]? = some (.lst p.2)
/-- what a loop walks: its items, and what must stay as it is -/
def walkSeq (as : List PV) (h : PH) : Option (List PV × Keep) := match as with
  | [.cl l] => some (l, [])
  | [.ref n] => (match h[n]? with | some (.lst l) => some (l, [(n, l)]) | _ => none)
  | [.tup l] => some (l, [])
  | [.str z] => some (z.cps.toList.map fun c => .str ⟨#[c]⟩, [])
  | _ => none
def walkRange (as : List PV) (h : PH) : Option (List PV × Keep) := match as with
  | [.int n] => if n < 2 ^ 62 ∧ -(2 ^ 62) ≤ n then some (rangeP n, []) else none
  | _ => none
def walkZip (as : List PV) (h : PH) : Option (List PV × Keep) := match as with
  | [.tup l, .tup k] => some (zipP l k, [])
  | [.ref m, .ref n] => (match h[m]?, h[n]? with
    | some (.lst l), some (.lst k) => some (zipP l k, [(m, l), (n, k)])
    | _, _ => none)
  | _ => none
def walkZip3 (as : List PV) (h : PH) : Option (List PV × Keep) := match as with
  | [.ref m, .ref n, .ref k] => (match h[m]?, h[n]?, h[k]? with
    | some (.lst l), some (.lst l2), some (.lst l3) => some (zipP3 l l2 l3, [(m, l), (n, l2), (k, l3)])
    | _, _, _ => none)
  | _ => none
def walkZipT (as : List PV) (h : PH) : Option (List PV × Keep) := match as with
  | [.tup l, .tup k] => some (zipP l k, [])
  | _ => none
def walkF : ITK → List PV → PH → Option (List PV × Keep)
  | .zipT => walkZipT
  | .seq => walkSeq
  | .range => walkRange
  | .zip => walkZip
  | .zip3 => walkZip3
inductive RS where
  | nx (ρ : Env) (h : PH)
  | rt (v : PV) (h : PH)
  | bk (ρ : Env) (h : PH)
  | ct (ρ : Env) (h : PH)
  | ex (x : Exn) (ρ : Env) (h : PH)
  | no
/-- an expression ahead of a statement's rest -/
def R.st {α : Type} (m : R α) (ρ : Env) (f : α → PH → RS) : RS := match m with | .ok a h => f a h | .ex x h => .ex x ρ h | .no => .no
@[simp] theorem R.st_ok {α : Type} (a : α) (h : PH) (ρ : Env) (f : α → PH → RS) : (R.ok a h).st ρ f = f a h := rfl
@[simp] theorem R.st_no {α : Type} (ρ : Env) (f : α → PH → RS) : (R.no : R α).st ρ f = .no := rfl
@[simp] theorem R.st_ex {α : Type} (x : Exn) (h : PH) (ρ : Env) (f : α → PH → RS) : (R.ex x h : R α).st ρ f = .ex x ρ h := rfl
def RS.seq (m : RS) (f : Env → PH → RS) : RS := match m with | .nx ρ h => f ρ h | r => r
@[simp] theorem RS.seq_nx (ρ : Env) (h : PH) (f : Env → PH → RS) : (RS.nx ρ h).seq f = f ρ h := rfl
@[simp] theorem RS.seq_rt (v : PV) (h : PH) (f : Env → PH → RS) : (RS.rt v h).seq f = .rt v h := rfl
@[simp] theorem RS.seq_no (f : Env → PH → RS) : RS.no.seq f = .no := rfl
@[simp] theorem RS.seq_bk (ρ : Env) (h : PH) (f : Env → PH → RS) : (RS.bk ρ h).seq f = .bk ρ h := rfl
@[simp] theorem RS.seq_ct (ρ : Env) (h : PH) (f : Env → PH → RS) : (RS.ct ρ h).seq f = .ct ρ h := rfl
@[simp] theorem RS.seq_ex (x : Exn) (ρ : Env) (h : PH) (f : Env → PH → RS) : (RS.ex x ρ h).seq f = .ex x ρ h := rfl
open Classical in
noncomputable def za8 (kp : Keep) (bind : PV → Option Env) (t : Env → PH → R Bool) (e : Env → PH → R PV) : List PV → List PV → PH → R (List PV)
  | [], acc, h => if zbs kp h then .ok acc h else .no
  | x :: xs, acc, h => if zbs kp h then
      (match bind x with
      | some ρ => (t ρ h).bind fun b h1 => if b then (e ρ h1).bind fun v h2 => if zay (acc.length + 1) then za8 kp bind t e xs (acc ++ [v]) h2 else .no else za8 kp bind t e xs acc h1
      | none => .no) else .no
open Classical in
/-- two fors: inner goes through what one item of the outer one gives -/
noncomputable def comp2Loop (kp : Keep) (bind : PV → Option Env) (inner : Env → List PV → PH → R (List PV)) : List PV → List PV → PH → R (List PV)
  | [], acc, h => if zbs kp h then .ok acc h else .no
  | x :: xs, acc, h => if zbs kp h then
      (match bind x with
      | some ρ => (inner ρ acc h).bind fun l h1 => comp2Loop kp bind inner xs l h1
      | none => .no) else .no
open Classical in
noncomputable def dcompLoop (kp : Keep) (bind : PV → Option Env) (t : Env → PH → R Bool) (ek ev : Env → PH → R PV) : List PV → List (L2.Key × PV) → PH → R (List (L2.Key × PV))
  | [], acc, h => if zbs kp h then .ok acc h else .no
  | x :: xs, acc, h => if zbs kp h then
      (match bind x with
      | some ρ => (t ρ h).bind fun b h1 => if b then (ek ρ h1).bind fun k h2 => (ev ρ h2).bind fun v h3 => (match keyOf k with | some k => if zay (acc.length + 1) then dcompLoop kp bind t ek ev xs (putP acc k v) h3 else .no | none => .no) else dcompLoop kp bind t ek ev xs acc h1
      | none => .no) else .no
/-- {x[0] for x in xs} -/
def firstK : PV → Option L2.Key
  | .tup (p :: _) => keyOf p
  | _ => none
def firstsP (d : Option PV) (h : PH) : R PV := match d with
  | some (.ref n) => (match h[n]? with
    | some (.lst l) => (match mapO firstK l with
      | some ks => if l.length < 1000 then .ok (.ste (ks.foldl addK [])) h else .no
      | none => .no)
    | _ => .no)
  | _ => .no
/-- {scale: near if mark == far else mark for scale, mark in marks.items()} -/
def remarkL (a b : Str) (l : List (L2.Key × PV)) : List (L2.Key × PV) := l.map fun kv => (kv.1, match kv.2 with | .str m => .str (if m = b then a else m) | v => v)
def remarkP (d near far : Option PV) (h : PH) : R PV := match d, near, far with
  | some (.ref n), some (.str a), some (.str b) => (match h[n]? with
    | some (.dct l) => (match strsOf (l.map (·.2)) with
      | some _ => if zay (l.length + 1) then allocD (mergeP [] (remarkL a b l)) h else .no
      | none => .no)
    | _ => .no)
  | _, _, _ => .no
/-- a loop's turn ends: the next one, or the loop's end -/
def RS.turn (m : RS) (f : Env → PH → RS) : RS := match m with | .nx ρ h => f ρ h | .ct ρ h => f ρ h | .bk ρ h => .nx ρ h | r => r
@[simp] theorem RS.turn_nx (ρ : Env) (h : PH) (f : Env → PH → RS) : (RS.nx ρ h).turn f = f ρ h := rfl
@[simp] theorem RS.turn_ct (ρ : Env) (h : PH) (f : Env → PH → RS) : (RS.ct ρ h).turn f = f ρ h := rfl
@[simp] theorem RS.turn_bk (ρ : Env) (h : PH) (f : Env → PH → RS) : (RS.bk ρ h).turn f = .nx ρ h := rfl
@[simp] theorem RS.turn_rt (v : PV) (h : PH) (f : Env → PH → RS) : (RS.rt v h).turn f = .rt v h := rfl
@[simp] theorem RS.turn_ex (x : Exn) (ρ : Env) (h : PH) (f : Env → PH → RS) : (RS.ex x ρ h).turn f = .ex x ρ h := rfl
@[simp] theorem RS.turn_no (f : Env → PH → RS) : RS.no.turn f = .no := rfl
open Classical in
noncomputable def forLoop (kp : Keep) (bind : Env → PV → Option Env) (b : Env → PH → RS) : List PV → Env → PH → RS
  | [], ρ, h => if zbs kp h then .nx ρ h else .no
  | x :: xs, ρ, h => if zbs kp h then (match bind ρ x with | some ρ1 => (b ρ1 h).turn (forLoop kp bind b xs) | none => .no) else .no
def zba (t : Env → PH → R Bool) (b : Env → PH → RS) : Nat → Env → PH → RS
  | 0, _, _ => .no
  | n + 1, ρ, h => (t ρ h).st ρ fun c h1 => if c then (b ρ h1).turn (zba t b n) else .nx ρ h1
theorem whileN_up {t : Env → PH → R Bool} {b : Env → PH → RS} : ∀ (n : Nat) (ρ : Env) (h : PH), zba t b n ρ h ≠ .no → zba t b (n + 1) ρ h = zba t b n ρ h := by
  intro n
  induction n with
  | zero => intro ρ h q; exact absurd rfl q
  | succ n ih =>
    intro ρ h q
    show (t ρ h).st ρ (fun c h1 => if c then (b ρ h1).turn (zba t b (n + 1)) else .nx ρ h1) = (t ρ h).st ρ fun c h1 => if c then (b ρ h1).turn (zba t b n) else .nx ρ h1
    have q' : ((t ρ h).st ρ fun c h1 => if c then (b ρ h1).turn (zba t b n) else .nx ρ h1) ≠ .no := q
    cases e : t ρ h with
    | no => rfl
    | ex x h1 => rfl
    | ok c h1 =>
      rw [e] at q'
      simp only [R.st_ok] at q' ⊢
      cases c with
      | false => rfl
      | true =>
        simp only [if_true] at q' ⊢
        cases e2 : b ρ h1 with
        | nx ρ2 h2 => rw [e2] at q'; exact ih ρ2 h2 q'
        | ct ρ2 h2 => rw [e2] at q'; exact ih ρ2 h2 q'
        | bk ρ2 h2 => rfl
        | rt v h2 => rfl
        | ex x ρ2 h2 => rfl
        | no => rfl
theorem whileN_le {t : Env → PH → R Bool} {b : Env → PH → RS} {m n : Nat} {ρ : Env} {h : PH} (hmn : m ≤ n) (q : zba t b m ρ h ≠ .no) : zba t b n ρ h = zba t b m ρ h := by
  induction hmn with
  | refl => rfl
  | step _ ih => rw [whileN_up _ _ _ (by rw [ih]; exact q), ih]
open Classical in
noncomputable def whileF (t : Env → PH → R Bool) (b : Env → PH → RS) (ρ : Env) (h : PH) : RS :=
  if q : ∃ n, zba t b n ρ h ≠ .no then zba t b q.choose ρ h else .no
theorem whileF_of {t : Env → PH → R Bool} {b : Env → PH → RS} {n : Nat} {ρ : Env} {h : PH} (q : zba t b n ρ h ≠ .no) : whileF t b ρ h = zba t b n ρ h := by
  unfold whileF
  have q' : ∃ n, zba t b n ρ h ≠ .no := ⟨n, q⟩
  rw [dif_pos q']
  rcases Nat.le_total n q'.choose with z | z
  · exact whileN_le z q
  · exact (whileN_le z q'.choose_spec).symm
theorem whileF_some {t : Env → PH → R Bool} {b : Env → PH → RS} {ρ : Env} {h : PH} (q : whileF t b ρ h ≠ .no) : ∃ n, zba t b n ρ h ≠ .no ∧ whileF t b ρ h = zba t b n ρ h := by
  by_cases q' : ∃ n, zba t b n ρ h ≠ .no
  · obtain ⟨n, e⟩ := q'
    exact ⟨n, e, whileF_of e⟩
  · exfalso
    apply q
    unfold whileF
    rw [dif_neg q']
/-- a while, one turn -/
theorem whileF_eq (t : Env → PH → R Bool) (b : Env → PH → RS) (ρ : Env) (h : PH) : whileF t b ρ h = (t ρ h).st ρ fun c h1 => if c then (b ρ h1).turn (whileF t b) else .nx ρ h1 := by
  by_cases q : ((t ρ h).st ρ fun c h1 => if c then (b ρ h1).turn (whileF t b) else .nx ρ h1) = .no
  · rw [q]
    by_cases z : whileF t b ρ h = .no
    · exact z
    · exfalso
      obtain ⟨n, e1, e2⟩ := whileF_some z
      cases n with
      | zero => exact e1 rfl
      | succ n =>
        apply e1
        show ((t ρ h).st ρ fun c h1 => if c then (b ρ h1).turn (zba t b n) else .nx ρ h1) = .no
        cases e : t ρ h with
        | no => rfl
        | ex x h1 => rw [e] at q; cases q
        | ok c h1 =>
          rw [e] at q
          simp only [R.st_ok] at q ⊢
          cases c with
          | false => simp at q
          | true =>
            simp only [if_true] at q ⊢
            cases e3 : b ρ h1 with
            | nx ρ2 h2 =>
              rw [e3] at q
              by_cases w : zba t b n ρ2 h2 = .no
              · exact w
              · have := whileF_of w
                show zba t b n ρ2 h2 = .no
                rw [← this]
                exact q
            | ct ρ2 h2 =>
              rw [e3] at q
              by_cases w : zba t b n ρ2 h2 = .no
              · exact w
              · have := whileF_of w
                show zba t b n ρ2 h2 = .no
                rw [← this]
                exact q
            | bk ρ2 h2 => rw [e3] at q; cases q
            | rt v h2 => rw [e3] at q; cases q
            | ex x ρ2 h2 => rw [e3] at q; cases q
            | no => rfl
  · have key : ∃ n, zba t b n ρ h = (t ρ h).st ρ fun c h1 => if c then (b ρ h1).turn (whileF t b) else .nx ρ h1 := by
      cases e : t ρ h with
      | no => rw [e] at q; exact absurd rfl q
      | ex x h1 => exact ⟨1, by show (t ρ h).st ρ _ = _; rw [e]; rfl⟩
      | ok c h1 =>
        rw [e] at q
        simp only [R.st_ok] at q ⊢
        cases c with
        | false => exact ⟨1, by show (t ρ h).st ρ _ = _; rw [e]; rfl⟩
        | true =>
          simp only [if_true] at q ⊢
          cases e3 : b ρ h1 with
          | nx ρ2 h2 =>
            rw [e3] at q
            obtain ⟨n, _, e5⟩ := whileF_some (show whileF t b ρ2 h2 ≠ .no from q)
            exact ⟨n + 1, by show (t ρ h).st ρ _ = _; rw [e]; simp only [R.st_ok, if_true]; rw [e3]; exact e5.symm⟩
          | ct ρ2 h2 =>
            rw [e3] at q
            obtain ⟨n, _, e5⟩ := whileF_some (show whileF t b ρ2 h2 ≠ .no from q)
            exact ⟨n + 1, by show (t ρ h).st ρ _ = _; rw [e]; simp only [R.st_ok, if_true]; rw [e3]; exact e5.symm⟩
          | bk ρ2 h2 => exact ⟨1, by show (t ρ h).st ρ _ = _; rw [e]; simp only [R.st_ok, if_true]; rw [e3]; rfl⟩
          | rt v h2 => exact ⟨1, by show (t ρ h).st ρ _ = _; rw [e]; simp only [R.st_ok, if_true]; rw [e3]; rfl⟩
          | ex x ρ2 h2 => exact ⟨1, by show (t ρ h).st ρ _ = _; rw [e]; simp only [R.st_ok, if_true]; rw [e3]; rfl⟩
          | no => rw [e3] at q; exact absurd rfl q
    obtain ⟨n, e⟩ := key
    rw [← e] at q ⊢
    exact whileF_of q
abbrev Calls := Nat → List PV → PH → R PV
/-- a value as it is, or (t) its truth -/
def fin (t : Bool) (m : R PV) : R PV := if t then m.bind fun x h => ofO ((truthy h x).map .bl) h else m
def asB (m : R PV) : R Bool := m.bind fun x h => match x with | .bl b => .ok b h | _ => .no
mutual
/-- t: asked as a test -/
noncomputable def evG (C : Calls) : E → Bool → Env → PH → R PV
  | .var i, t, ρ, h => fin t (ofO (ρ.get i) h)
  | .lit v, t, _, h => fin t (.ok v h)
  | .bin op a b, t, ρ, h => fin t ((evG C a false ρ h).bind fun x h1 => (evG C b false ρ h1).bind fun y h2 => binop op x y h2)
  | .neg a, t, ρ, h => fin t ((evG C a false ρ h).bind fun x h1 => match x with | .int i => .ok (.int (-i)) h1 | _ => .no)
  | .nt a, t, ρ, h => (evG C a t ρ h).bind fun x h1 => match x with | .bl b => .ok (.bl (!b)) h1 | _ => .no
  | .band a b, t, ρ, h => (evG C a t ρ h).bind fun x h1 => match x with | .bl true => evG C b t ρ h1 | .bl false => .ok (.bl false) h1 | _ => .no
  | .bor a b, t, ρ, h => (evG C a t ρ h).bind fun x h1 => match x with | .bl false => evG C b t ρ h1 | .bl true => .ok (.bl true) h1 | _ => .no
  | .cmp op a b, t, ρ, h => fin t ((evG C a false ρ h).bind fun x h1 => (evG C b false ρ h1).bind fun y h2 => zbi op x y h2)
  | .ite c a b, t, ρ, h => fin t ((evG C c true ρ h).bind fun x h1 => match x with | .bl true => evG C a false ρ h1 | .bl false => evG C b false ρ h1 | _ => .no)
  | .tup es, t, ρ, h => fin t ((evGs C es ρ h).bind fun l h1 => tupO l h1)
  | .lst es, t, ρ, h => fin t ((evGs C es ρ h).bind fun l h1 => alloc l h1)
  | .idx a i, t, ρ, h => fin t ((evG C a false ρ h).bind fun x h1 => (evG C i false ρ h1).bind fun y h2 => idxop x y h2)
  | .slc a lo hi, t, ρ, h => fin t ((evG C a false ρ h).bind fun x h1 => (evGo C lo ρ h1).bind fun l h2 => (evGo C hi ρ h2).bind fun u h3 => slcop x l u h3)
  | .call f es ds, t, ρ, h => fin t ((evGs C es ρ h).bind fun l h1 => C f (l ++ ds) h1)
  | .callk f es ix ds, t, ρ, h => fin t ((evGs C es ρ h).bind fun l h1 => match mapO (fun i => l[i]?) ix with | some l' => C f (l' ++ ds) h1 | none => .no)
  | .bi b es, t, ρ, h => fin t ((evGs C es ρ h).bind fun l h1 => biF b l h1)
  | .mth m o es, t, ρ, h => fin t ((evG C o false ρ h).bind fun x h1 => if tyOf h1 x = some m.ty then (evGs C es ρ h1).bind fun l h2 => mtF m x l h2 else .no)
  | .srt a, t, ρ, h => fin t ((evG C a false ρ h).bind fun x h1 => srtop x h1)
  | .srtW a i, t, ρ, h => fin t ((evG C a false ρ h).bind fun x h1 => match ρ[i]? with
    | some (some (.int w)) => srtWop w x h1
    | _ => .no)
  | .dct es, t, ρ, h => fin t ((evGs C es ρ h).bind fun l h1 => match pairUp l with | some l => allocD (mergeP [] l) h1 | none => .no)
  | .dcomp ke ve tg one k its cond own, t, ρ, h => fin t ((evGs C its ρ h).bind fun l h1 =>
      match walkF k l h1 with
      | some (items, kp) => (dcompLoop kp (fun x => setTg (wipeP ρ own) tg one x) (fun ρ1 h2 => (evGc C cond ρ1 h2).calm) (fun ρ1 h2 => (evG C ke false ρ1 h2).calm) (fun ρ1 h2 => (evG C ve false ρ1 h2).calm) items [] h1).bind fun l h2 => allocD l h2
      | none => .no)
  | .firsts j, t, ρ, h => fin t (firstsP (ρ.get j) h)
  | .remark d near far, t, ρ, h => fin t (remarkP (ρ.get d) (ρ.get near) (ρ.get far) h)
  | .comp elt tg one k its cond own, t, ρ, h => fin t ((evGs C its ρ h).bind fun l h1 =>
      match walkF k l h1 with
      | some (items, kp) => (za8 kp (fun x => setTg (wipeP ρ own) tg one x) (fun ρ1 h2 => (evGc C cond ρ1 h2).calm) (fun ρ1 h2 => (evG C elt false ρ1 h2).calm) items [] h1).bind fun l h2 => alloc l h2
      | none => .no)
  | .comp2 elt tg one k its tg1 one1 k1 its1 own, t, ρ, h => fin t ((evGs C its ρ h).bind fun l h1 =>
      match walkF k l h1 with
      | some (items, kp) => (comp2Loop kp (fun x => setTg (wipeP ρ own) tg one x) (fun ρ1 acc h2 => (evGs C its1 ρ1 h2).calm.bind fun l1 h3 => match walkF k1 l1 h3 with
          | some (items1, kp1) => za8 kp1 (fun y => setTg (wipeP ρ1 tg1) tg1 one1 y) (fun _ h4 => .ok true h4) (fun ρ2 h4 => (evG C elt false ρ2 h4).calm) items1 acc h3
          | none => .no) items [] h1).bind fun l h2 => alloc l h2
      | none => .no)
  | .stp a s, t, ρ, h => fin t ((evG C a false ρ h).bind fun x h1 => (evG C s false ρ h1).bind fun st h2 => stpop x st h2)
  | .rev a, t, ρ, h => fin t ((evG C a false ρ h).bind fun x h1 => revop x h1)
  | .xat a f c, t, ρ, h => fin t ((evG C a false ρ h).bind fun x h1 => xatop x f c h1)
  | .fld c f a, t, ρ, h => fin t ((evG C a false ρ h).bind fun x h1 => fldop c f x h1)
  | .meth c m k o es ds, t, ρ, h => fin t ((evG C o false ρ h).bind fun x h1 => if insB c m h1 x then (evGs C es ρ h1).bind fun l h2 => C k (x :: (l ++ ds)) h2 else .no)
  | .make c k es ds, t, ρ, h => fin t ((evGs C es ρ h).bind fun l h1 => (C k (.ref h1.length :: (l ++ ds)) (h1 ++ [.obj c []])).bind fun v h2 => isNew v h1.length h2)
  | .disp tb w es, t, ρ, h => fin t ((evG C w false ρ h).bind fun x h1 => match x with
      | .str s => (match tb.lookup s with | some k => (evGs C es ρ h1).bind fun l h2 => C k l h2 | none => .no)
      | _ => .no)
  | .chain op op2 a b c, t, ρ, h => fin t ((evG C a false ρ h).bind fun x h1 => (evG C b false ρ h1).bind fun y h2 => (zbi op x y h2).bind fun k h3 => match k with
      | .bl true => (evG C c false ρ h3).bind fun z h4 => zbi op2 y z h4
      | .bl false => .ok (.bl false) h3
      | _ => .no)
  | .dctc l, t, _, h => fin t (allocD l h)
  | .ntv a, t, ρ, h => fin t ((evG C a false ρ h).bind fun x h1 => match truthy h1 x with | some b => .ok (.bl (!b)) h1 | none => .no)
  | .dtp0, t, _, h => fin t (.ok (.ref h.length) (h ++ [.dtp []]))
  | .idxT o ks, t, ρ, h => fin t ((evG C o false ρ h).bind fun x h1 => (evGs C ks ρ h1).bind fun l h2 => getQ x l h2)
  | .orv a b, t, ρ, h => fin t ((evG C a false ρ h).bind fun x h1 => match truthy h1 x with | some true => .ok x h1 | some false => evG C b false ρ h1 | none => .no)
  | .oeq c k ne a b, t, ρ, h => fin t ((evG C a false ρ h).bind fun x h1 => (evG C b false ρ h1).bind fun y h2 => if (insB c "__eq__" h2 x && insB c "__eq__" h2 y) = true then (C k [x, y] h2).calm.bind fun v h3 => match v with
      | .bl r => .ok (.bl (if ne then !r else r)) h3
      | _ => .no
    else .no)
  | .deq a b, t, ρ, h => fin t ((evG C a false ρ h).bind fun x h1 => (evG C b false ρ h1).bind fun y h2 => ofO ((dEq2P h2 x y).map .bl) h2)
  | .isc c a, t, ρ, h => fin t ((evG C a false ρ h).bind fun x h1 => if insB c "" h1 x then .ok (.bl true) h1 else .no)
noncomputable def evGs (C : Calls) : List E → Env → PH → R (List PV)
  | [], _, h => .ok [] h
  | e :: es, ρ, h => (evG C e false ρ h).bind fun x h1 => (evGs C es ρ h1).bind fun l h2 => .ok (x :: l) h2
noncomputable def evGo (C : Calls) : Option E → Env → PH → R (Option Int)
  | none, _, h => .ok none h
  | some e, ρ, h => (evG C e false ρ h).bind fun x h1 => match x with | .int i => .ok (some i) h1 | _ => .no
noncomputable def evGc (C : Calls) : Option E → Env → PH → R Bool
  | none, _, h => .ok true h
  | some e, ρ, h => asB (evG C e true ρ h)
end
noncomputable abbrev evE (C : Calls) (e : E) : Env → PH → R PV := evG C e false
noncomputable def evT (C : Calls) (e : E) (ρ : Env) (h : PH) : R Bool := asB (evG C e true ρ h)
/-- a op= b: ints and texts -/
def iopF (op : Operator) (a b : PV) (h : PH) : R PV := match op, a, b with
  | .Add, .int i, .int j => .ok (.int (i + j)) h
  | .Sub, .int i, .int j => .ok (.int (i - j)) h
  | .Add, .str x, .str y => if zay (x.length + y.length) then .ok (.str (x ++ y)) h else .no
  | _, _, _ => .no
/-- o[i] of a list of the heap -/
def getL (a i : PV) (h : PH) : R PV := match a, i with
  | .ref n, .int i => if 0 ≤ i then (match h[n]? with | some (.lst l) => ofO l[i.toNat]? h | _ => .no) else .no
  | _, _ => .no
/-- a target is stored -/
noncomputable def stTg (C : Calls) : Tgt → PV → Env → PH → RS
  | .nm i, v, ρ, h => .nx (ρ.set i (some v)) h
  | .tup is, .tup l, ρ, h => match setAll ρ is l with | some ρ' => .nx ρ' h | none => .no
  | .tup _, _, _, _ => .no
  | .unl is, .ref n, ρ, h => match h[n]? with | some (.lst l) => (match setAll ρ is l with | some ρ' => .nx ρ' h | none => .no) | _ => .no
  | .unl _, _, _, _ => .no
  | .sub o i, v, ρ, h => (evE C o ρ h).st ρ fun x h1 => (evE C i ρ h1).st ρ fun y h2 => match setop x y v h2 with | some h3 => .nx ρ h3 | none => .no
  | .ust is, .tup l, ρ, h => if is.length ≤ l.length + 1 ∧ l.length ≤ 1000 then (match is.getLast? with
      | some j => (match setAll ρ is.dropLast (l.take (is.length - 1)) with
        | some ρ' => .nx (ρ'.set j (some (.ref h.length))) (h ++ [.lst (l.drop (is.length - 1))])
        | none => .no)
      | none => .no) else .no
  | .ust _, _, _, _ => .no
  | .sub2 o i o2 i2, .tup [v, w], ρ, h => (evE C o ρ h).st ρ fun x h1 => (evE C i ρ h1).st ρ fun y h2 => match setop x y v h2 with
      | some h3 => (evE C o2 ρ h3).st ρ fun x2 h4 => (evE C i2 ρ h4).st ρ fun y2 h5 => match setop x2 y2 w h5 with | some h6 => .nx ρ h6 | none => .no
      | none => .no
  | .sub2 _ _ _ _, _, _, _ => .no
  | .fld c f o, v, ρ, h => (evE C o ρ h).st ρ fun x h1 => match setfld c f x v h1 with | some h2 => .nx ρ h2 | none => .no
/-- no handled exception is left behind -/
def coolE (ρ ρ1 : Env) : Prop := ∀ (n : Nat) (p : PV), ρ1[n]? = some (some p) → ρ[n]? = some (some p) ∨ coldV p = true
def coolH (h h1 : PH) : Prop := ∀ (n : Nat) (o : PO), h1[n]? = some o → h[n]? = some o ∨ coldO o = true
def setO (ρ : Env) (i : Option Nat) (v : Option PV) : Env := match i with | some i => ρ.set i v | none => ρ
open Classical in
noncomputable def coolS (i : Option Nat) (ρ : Env) (h : PH) : RS → RS
  | .nx ρ1 h1 => if coolE ρ (setO ρ1 i none) ∧ coolH h h1 then .nx (setO ρ1 i none) h1 else .no
  | .rt v h1 => if coldV v = true ∧ coolH h h1 then .rt v h1 else .no
  | _ => .no
mutual
noncomputable def exS (C : Calls) : S → Env → PH → RS
  | .asg g e, ρ, h => (evE C e ρ h).st ρ fun v h1 => stTg C g v ρ h1
  | .aug i op e, ρ, h => match ρ.get i with
    | some x => (evE C e ρ h).st ρ fun y h1 => (iopF op x y h1).st ρ fun z h2 => .nx (ρ.set i (some z)) h2
    | none => .no
  | .augs o i op e, ρ, h => (evE C o ρ h).st ρ fun ov h1 => (evE C i ρ h1).st ρ fun iv h2 => (getL ov iv h2).st ρ fun x h3 => (evE C e ρ h3).st ρ fun y h4 => (iopF op x y h4).st ρ fun z h5 => match setop ov iv z h5 with | some h6 => .nx ρ h6 | none => .no
  | .augf c f o op e, ρ, h => (evE C o ρ h).st ρ fun ov h1 => (fldop c f ov h1).st ρ fun x h2 => (evE C e ρ h2).st ρ fun y h3 => (iopF op x y h3).st ρ fun z h4 => match setfld c f ov z h4 with | some h5 => .nx ρ h5 | none => .no
  | .ifs t a b, ρ, h => (evT C t ρ h).st ρ fun c h1 => if c then exSs C a ρ h1 else exSs C b ρ h1
  | .whl t b, ρ, h => whileF (fun ρ h => evT C t ρ h) (fun ρ h => exSs C b ρ h) ρ h
  | .fr tg one k its b, ρ, h => (evGs C its ρ h).st ρ fun l h1 => match walkF k l h1 with
      | some (items, kp) => forLoop kp (fun ρ x => setTg ρ tg one x) (fun ρ h => exSs C b ρ h) items ρ h1
      | none => .no
  | .ret e, ρ, h => (evE C e ρ h).st ρ fun v h1 => .rt v h1
  | .ret0, _, h => .rt .non h
  | .ex e, ρ, h => (evE C e ρ h).st ρ fun _ h1 => .nx ρ h1
  | .pass, ρ, h => .nx ρ h
  | .brk, ρ, h => .bk ρ h
  | .cont, ρ, h => .ct ρ h
  | .raise x ns es, ρ, h => (evGs C es ρ h).st ρ fun l h1 => .ex ⟨x, ns, l.reverse⟩ ρ h1
  | .tryN b c xs s, ρ, h => match exSs C b ρ h with
    | .ex x ρ1 h1 => if x.cls ∈ xs then (if x.cls = c then exSs C s ρ1 h1 else .ex x ρ1 h1) else .no
    | r => r
  | .tryA b c xs fi i j lit ns fs exs, ρ, h => match exSs C b ρ h with
    | .ex x ρ1 h1 => if x.cls ∈ xs then (if x.cls = c then (match C fi [.xc x.cls [] []] [], mapO (fun f => (x.ns.zip x.vs).lookup f) fs with
      | .ok (.bl true) _, some vs => if x.ns = ns ∧ i < ρ1.length then .nx ((ρ1.set j (some (.tup (.str lit :: vs ++ exs)))).set i none) h1 else .no
      | _, _ => .no) else .ex x ρ1 h1) else .no
    | r => r
  | .hole, _, _ => .no
  | .asgT o ks e, ρ, h => (evE C e ρ h).st ρ fun v h1 => (evE C o ρ h1).st ρ fun x h2 => (evGs C ks ρ h2).st ρ fun l h3 => match setQ x l v h3 with | some h4 => .nx ρ h4 | none => .no
  | .hd _ _ _, _, _ => .no
  | .tryH b xs hs, ρ, h => match exSs C b ρ h with
    | .ex x ρ1 h1 => if x.cls ∈ xs then exH C hs x ρ1 h1 else .no
    | r => r
noncomputable def exH (C : Calls) : List S → Exn → Env → PH → RS
  | [], x, ρ, h => .ex x ρ h
  | .hd c i b :: r, x, ρ, h => if hitX x.cls c then coolS i ρ h (exSs C b (setO ρ i (some (.xc x.cls x.ns x.vs))) h) else exH C r x ρ h
  | _, _, _, _ => .no
noncomputable def exSs (C : Calls) : List S → Env → PH → RS
  | [], ρ, h => .nx ρ h
  | s :: r, ρ, h => (exS C s ρ h).seq fun ρ1 h1 => exSs C r ρ1 h1
end
/-- a def's body at its arguments -/
def zan (ns : Nat) (vs : List PV) : Env := vs.map some ++ List.replicate (ns - vs.length) none
def RS.toR : RS → R PV
  | .nx _ h => .ok .non h
  | .rt v h => .ok v h
  | .ex x _ h => .ex x h
  | _ => .no
noncomputable def runFn (C : Calls) (f : Fn) (vs : List PV) (h : PH) : R PV := if vs.length = f.np then (exSs C f.body (zan f.ns vs) h).toR else .no
noncomputable def call (tbl : Nat → Fn) : Nat → Calls
  | 0 => fun _ _ _ => .no
  | k + 1 => fun f vs h => runFn (call tbl k) (tbl f) vs h
end Sb
namespace Sb
open PySem L2
/-- what the lying of plain values leans on: the written part, the exceptions that are handled -/
structure ZZ where
  K : PySem.W.Frag
  pn : List (Addr × Obj)
  P : Program
  w : World
def hotPn (X : Cx) : List (Addr × Obj) := match X.calm with | true => [] | false => X.pn.take 1
abbrev zOf (X : Cx) : ZZ := ⟨X.K, hotPn X, X.prog, X.w⟩
theorem z_calm {X : Cx} (h : X.calm = true) : zOf X = ⟨X.K, [], X.prog, X.w⟩ := by
  unfold zOf hotPn
  rw [h]
/-- a list, a tuple of the written part -/
def KL (K : PySem.W.Frag) (a : Addr) (xs : List V) : Prop := ∃ (o : Obj) (its : Array Value) (n : Nat), K.lookup a = some o ∧ o.cls = .type "list" ∧ o.dict = none ∧ o.data = .seq its n ∧ its.size ≤ sizeLine ∧ Vals xs its.toList
def KT (K : PySem.W.Frag) (a : Addr) (xs : List V) : Prop := ∃ (o : Obj) (its : Array Value) (n : Nat), K.lookup a = some o ∧ o.cls = .type "tuple" ∧ o.data = .seq its n ∧ its.size ≤ sizeLine ∧ Vals xs its.toList
def LstAt (K : ZZ) (φ : List Addr) (H : Hp) (a : Addr) (xs : List V) : Prop := ((∃ o, H a = some (.frz o (.lst xs))) ∧ a ∉ φ) ∨ KL K.K a xs
def TupAt (K : ZZ) (φ : List Addr) (H : Hp) (a : Addr) (xs : List V) : Prop := (Rd H a (.tup xs) ∧ a ∉ φ) ∨ KT K.K a xs
theorem LstAt.sq {K : ZZ} {φ : List Addr} {H : Hp} {a : Addr} {xs : List V} (h : LstAt K φ H a xs) : SqL K.K H a xs := h.elim (fun z => .inl (.inr z.1)) .inr
theorem TupAt.sq {K : ZZ} {φ : List Addr} {H : Hp} {a : Addr} {xs : List V} (h : TupAt K φ H a xs) : SqT K.K H a xs := h.elim (fun z => .inl z.1) .inr
mutual
def RV (K : ZZ) (φ : List Addr) (H : Hp) : PV → V → Prop
  | .non, v => v = .non
  | .bl b, v => v = .bl b
  | .int i, v => v = .int i
  | .str x, v => v = .str x
  | .ty t, v => v = .ty t.nm
  | .ref n, v => ∃ a, v = .ref a ∧ φ[n]? = some a
  | .tup l, v => ∃ a vs, v = .ref a ∧ TupAt K φ H a vs ∧ RVs K φ H l vs
  | .cl l, v => ∃ a vs, v = .ref a ∧ LstAt K φ H a vs ∧ RVs K φ H l vs
  | .cls x, v => v = if x = "ValueError" then .ty "ValueError" else .ref (He.ga K.K x)
  | .xc x ns l, v => ∃ a oe, v = .ref a ∧ (a, oe) ∈ K.pn ∧ oe.cls = .ref (He.ga K.K x) ∧ (∃ vs, oe.data = .fields vs) ∧ ((oe.dict = none ∧ ns = []) ∨ ∃ dd fs us, oe.dict = some dd ∧ H dd = some (.xd fs) ∧ dd ∉ φ ∧ (ns = [] ∨ (fs.map (·.1) = ns ∧ fs.map (·.2) = us)) ∧ RVs K φ H l us)
  | .ste l, v => ∃ a, v = .ref a ∧ H a = some (SetK K.P K.w a (fun k => l.any fun j => decide (j = k)) l.length) ∧ a ∉ φ ∧ l.Nodup
  | .exv x ns l, v => ∃ a us, v = .ref a ∧ a ∉ φ ∧ ((H a = some (ExO (.ref (He.ga K.K x)) a) ∧ ns = []) ∨ ∃ dd fs, H a = some (exo a (He.ga K.K x) (some dd)) ∧ H dd = some (exd dd fs) ∧ dd ∉ φ ∧ fs.map (·.1) = ns ∧ fs.map (·.2) = us) ∧ RVs K φ H l us
def RVs (K : ZZ) (φ : List Addr) (H : Hp) : List PV → List V → Prop
  | [], vs => vs = []
  | p :: ps, vs => ∃ v r, vs = v :: r ∧ RV K φ H p v ∧ RVs K φ H ps r
end
def RO (K : ZZ) (φ : List Addr) (H : Hp) : PO → HO → Prop
  | .lst l, o => ∃ vs, o = .lst vs ∧ RVs K φ H l vs
  | .dct l, o => ∃ kvs, o = .dK kvs ∧ kvs.map (·.1) = l.map (·.1) ∧ RVs K φ H (l.map (·.2)) (kvs.map (·.2))
  | .obj c fs, o => ∃ dx kvs, o = .ins (He.ga K.K c) dx kvs ∧ kvs.map (·.1) = fs.map (·.1) ∧ RVs K φ H (fs.map (·.2)) (kvs.map (·.2))
  | .dtp l, o => ∃ kvs, o = .dT kvs ∧ kvs.map (·.1) = l.map (·.1) ∧ RVs K φ H (l.map (·.2)) (kvs.map (·.2))
/-- the plain heap h lies at the addresses φ -/
structure Sim (K : ZZ) (φ : List Addr) (h : PH) (H : Hp) : Prop where
  len : φ.length = h.length
  nd : φ.Nodup
  ob : ∀ (n : Nat) (o : PO), h[n]? = some o → ∃ a ho, φ[n]? = some a ∧ H a = some ho ∧ RO K φ H o ho
  tb : LamX.Tabs (tabsOf K.K) H
/-- what may have changed: the objects at φ, and new ones -/
structure Ext (φ φ' : List Addr) (H H' : Hp) : Prop where
  pre : ∃ t, φ' = φ ++ t
  keep : ∀ a o, H a = some o → a ∉ φ → (∀ ps, o ≠ .tbl ps) → H' a = some o
  fresh : ∀ a, a ∈ φ' → a ∉ φ → ∀ o, H a = some o → ∃ ps, o = .tbl ps
theorem Ext.refl (φ : List Addr) (H : Hp) : Ext φ φ H H := ⟨⟨[], by simp⟩, fun _ _ e _ _ => e, fun _ h n => absurd h n⟩
theorem Ext.mem {φ φ' : List Addr} {H H' : Hp} (x : Ext φ φ' H H') {a : Addr} (h : a ∈ φ) : a ∈ φ' := by
  obtain ⟨t, e⟩ := x.pre
  rw [e]
  exact List.mem_append_left _ h
theorem Ext.trans {φ φ1 φ2 : List Addr} {H H1 H2 : Hp} (x : Ext φ φ1 H H1) (y : Ext φ1 φ2 H1 H2) : Ext φ φ2 H H2 := by
  obtain ⟨t, e⟩ := x.pre
  obtain ⟨u, e'⟩ := y.pre
  refine ⟨⟨t ++ u, by rw [e', e, List.append_assoc]⟩, fun a o q n nt => ?_, fun a h n o q => ?_⟩
  · refine y.keep a o (x.keep a o q n nt) (fun z => ?_) nt
    obtain ⟨ps, e⟩ := x.fresh a z n o q
    exact nt ps e
  · by_cases z : a ∈ φ1
    · exact x.fresh a z n o q
    · by_cases nt : ∀ ps, o ≠ .tbl ps
      · exact y.fresh a h z o (x.keep a o q n nt)
      · obtain ⟨ps, ep⟩ := Classical.not_forall.mp nt
        exact ⟨ps, Classical.not_not.mp ep⟩
theorem Ext.at {φ φ' : List Addr} {H H' : Hp} (x : Ext φ φ' H H') {n : Nat} {a : Addr} (h : φ[n]? = some a) : φ'[n]? = some a := by
  obtain ⟨t, e⟩ := x.pre
  rw [e, List.getElem?_append_left (List.getElem?_eq_some_iff.mp h).1]
  exact h
/-- what plain values lean on: tuples and locked things stay, places stay -/
def isFix : HO → Bool
  | .tup _ => true
  | .frz _ _ => true
  | .xd _ => true
  | .ext _ => true
  | _ => false
structure Kp (φ φ' : List Addr) (H H' : Hp) : Prop where
  pl : ∀ (n : Nat) (a : Addr), φ[n]? = some a → φ'[n]? = some a
  fx : ∀ a o, isFix o = true → H a = some o → a ∉ φ → H' a = some o ∧ a ∉ φ'
theorem fix_ntbl {o : HO} (f : isFix o = true) : ∀ ps, o ≠ .tbl ps := fun ps z => by
  subst z
  cases f
theorem Ext.kp {φ φ' : List Addr} {H H' : Hp} (x : Ext φ φ' H H') : Kp φ φ' H H' := ⟨fun _ _ => x.at, fun a o f e n => ⟨x.keep a o e n (fix_ntbl f), fun m => by
  obtain ⟨ps, z⟩ := x.fresh a m n o e
  exact fix_ntbl f ps z⟩⟩
section
variable {K : ZZ} {φ φ' : List Addr} {H H' : Hp}
theorem TupAt.monoK {a : Addr} {xs : List V} (x : Kp φ φ' H H') (h : TupAt K φ H a xs) : TupAt K φ' H' a xs := by
  rcases h with ⟨q | ⟨o, q⟩, n⟩ | h
  · exact .inl ⟨.inl (x.fx a _ rfl q n).1, (x.fx a _ rfl q n).2⟩
  · exact .inl ⟨.inr ⟨o, (x.fx a _ rfl q n).1⟩, (x.fx a _ rfl q n).2⟩
  · exact .inr h
theorem LstAt.monoK {a : Addr} {xs : List V} (x : Kp φ φ' H H') (h : LstAt K φ H a xs) : LstAt K φ' H' a xs := by
  rcases h with ⟨⟨o, q⟩, n⟩ | h
  · exact .inl ⟨⟨o, (x.fx a _ rfl q n).1⟩, (x.fx a _ rfl q n).2⟩
  · exact .inr h
theorem TupAt.mono {a : Addr} {xs : List V} (x : Ext φ φ' H H') (h : TupAt K φ H a xs) : TupAt K φ' H' a xs := h.monoK x.kp
theorem LstAt.mono {a : Addr} {xs : List V} (x : Ext φ φ' H H') (h : LstAt K φ H a xs) : LstAt K φ' H' a xs := h.monoK x.kp
mutual
theorem RV.monoK (x : Kp φ φ' H H') : ∀ {p : PV} {v : V}, RV K φ H p v → RV K φ' H' p v
  | .non, _, h => h
  | .bl _, _, h => h
  | .int _, _, h => h
  | .str _, _, h => h
  | .ty _, _, h => h
  | .ref n, v, h => by
    obtain ⟨a, e, q⟩ := h
    exact ⟨a, e, x.pl n a q⟩
  | .tup l, v, h => by
    obtain ⟨a, vs, e, q, r⟩ := h
    exact ⟨a, vs, e, q.monoK x, RVs.monoK x r⟩
  | .cl l, v, h => by
    obtain ⟨a, vs, e, q, r⟩ := h
    exact ⟨a, vs, e, q.monoK x, RVs.monoK x r⟩
  | .cls _, _, h => h
  | .xc _ _ l, v, h => by
    obtain ⟨a, oe, e, q, c, n, d⟩ := h
    refine ⟨a, oe, e, q, c, n, d.imp id ?_⟩
    rintro ⟨dd, fs, us, d1, d2, d3, d4, d5⟩
    exact ⟨dd, fs, us, d1, (x.fx dd _ rfl d2 d3).1, (x.fx dd _ rfl d2 d3).2, d4, RVs.monoK x d5⟩
  | .ste l, v, h => by
    obtain ⟨a, e, q, n, d⟩ := h
    exact ⟨a, e, (x.fx a _ rfl q n).1, (x.fx a _ rfl q n).2, d⟩
  | .exv _ _ l, v, h => by
    obtain ⟨a, us, e, n, d, r⟩ := h
    rcases d with ⟨q, z⟩ | ⟨dd, fs, q, q2, n2, z1, z2⟩
    · exact ⟨a, us, e, (x.fx a _ rfl q n).2, .inl ⟨(x.fx a _ rfl q n).1, z⟩, RVs.monoK x r⟩
    · exact ⟨a, us, e, (x.fx a _ rfl q n).2, .inr ⟨dd, fs, (x.fx a _ rfl q n).1, (x.fx dd _ rfl q2 n2).1, (x.fx dd _ rfl q2 n2).2, z1, z2⟩, RVs.monoK x r⟩
theorem RVs.monoK (x : Kp φ φ' H H') : ∀ {p : List PV} {v : List V}, RVs K φ H p v → RVs K φ' H' p v
  | [], _, h => h
  | p :: ps, vs, h => by
    obtain ⟨v, r, e, q, s⟩ := h
    exact ⟨v, r, e, RV.monoK x q, RVs.monoK x s⟩
end
theorem RV.mono (x : Ext φ φ' H H') {p : PV} {v : V} (h : RV K φ H p v) : RV K φ' H' p v := h.monoK x.kp
theorem RVs.mono (x : Ext φ φ' H H') {p : List PV} {v : List V} (h : RVs K φ H p v) : RVs K φ' H' p v := h.monoK x.kp
theorem RO.monoK (x : Kp φ φ' H H') {o : PO} {ho : HO} (h : RO K φ H o ho) : RO K φ' H' o ho := by
  cases o with
  | lst l =>
    obtain ⟨vs, e, r⟩ := h
    exact ⟨vs, e, r.monoK x⟩
  | dct l =>
    obtain ⟨kvs, e, k, r⟩ := h
    exact ⟨kvs, e, k, r.monoK x⟩
  | obj c fs =>
    obtain ⟨dx, kvs, e, k, r⟩ := h
    exact ⟨dx, kvs, e, k, r.monoK x⟩
  | dtp l =>
    obtain ⟨kvs, e, k, r⟩ := h
    exact ⟨kvs, e, k, r.monoK x⟩
theorem RO.mono (x : Ext φ φ' H H') {o : PO} {ho : HO} (h : RO K φ H o ho) : RO K φ' H' o ho := h.monoK x.kp
theorem RVs.nil : RVs K φ H [] [] := rfl
theorem RVs.cons {p : PV} {v : V} {ps : List PV} {vs : List V} (h : RV K φ H p v) (r : RVs K φ H ps vs) : RVs K φ H (p :: ps) (v :: vs) := ⟨v, vs, rfl, h, r⟩
theorem RVs.length : ∀ {ps : List PV} {vs : List V}, RVs K φ H ps vs → ps.length = vs.length
  | [], vs, h => by
    have e : vs = [] := h
    rw [e]
    rfl
  | p :: ps, vs, h => by
    obtain ⟨v, r, e, _, s⟩ := h
    rw [e, List.length_cons, List.length_cons, RVs.length s]
theorem RVs.get : ∀ {ps : List PV} {vs : List V} {i : Nat} {p : PV}, RVs K φ H ps vs → ps[i]? = some p → ∃ v, vs[i]? = some v ∧ RV K φ H p v
  | [], _, _, _, _, e => by simp at e
  | p :: ps, vs, 0, q, h, e => by
    obtain ⟨v, r, e', s, _⟩ := h
    simp at e
    subst e
    exact ⟨v, by rw [e']; rfl, s⟩
  | p :: ps, vs, i + 1, q, h, e => by
    obtain ⟨v, r, e', _, s⟩ := h
    obtain ⟨w, f, g⟩ := RVs.get (i := i) s (by simpa using e)
    exact ⟨w, by rw [e']; simpa using f, g⟩
theorem RVs.append : ∀ {ps qs : List PV} {vs ws : List V}, RVs K φ H ps vs → RVs K φ H qs ws → RVs K φ H (ps ++ qs) (vs ++ ws)
  | [], _, vs, _, h, r => by
    rw [show vs = [] from h]
    exact r
  | p :: ps, qs, vs, ws, h, r => by
    obtain ⟨v, t, e, q, s⟩ := h
    rw [e]
    exact ⟨v, t ++ ws, rfl, q, RVs.append s r⟩
theorem RVs.set : ∀ {ps : List PV} {vs : List V} {p : PV} {v : V} (i : Nat), RV K φ H p v → RVs K φ H ps vs → RVs K φ H (ps.set i p) (vs.set i v)
  | [], vs, _, _, _, _, h => by
    rw [show vs = [] from h]
    exact rfl
  | q :: ps, vs, p, v, 0, hp, h => by
    obtain ⟨w, t, e, q, s⟩ := h
    rw [e]
    exact ⟨v, t, rfl, hp, s⟩
  | q :: ps, vs, p, v, i + 1, hp, h => by
    obtain ⟨w, t, e, q, s⟩ := h
    rw [e]
    exact ⟨w, t.set i v, rfl, q, RVs.set i hp s⟩
theorem RVs.erase : ∀ {ps : List PV} {vs : List V} (i : Nat), RVs K φ H ps vs → RVs K φ H (ps.eraseIdx i) (vs.eraseIdx i)
  | [], vs, _, h => by
    rw [show vs = [] from h]
    exact rfl
  | q :: ps, vs, 0, h => by
    obtain ⟨w, t, e, q, s⟩ := h
    rw [e]
    exact s
  | q :: ps, vs, i + 1, h => by
    obtain ⟨w, t, e, q, s⟩ := h
    rw [e]
    exact ⟨w, t.eraseIdx i, rfl, q, RVs.erase i s⟩
theorem RVs.take : ∀ {ps : List PV} {vs : List V} (i : Nat), RVs K φ H ps vs → RVs K φ H (ps.take i) (vs.take i)
  | _, _, 0, _ => by rw [List.take_zero, List.take_zero]; exact rfl
  | [], vs, i + 1, h => by
    rw [show vs = [] from h]
    exact rfl
  | q :: ps, vs, i + 1, h => by
    obtain ⟨w, t, e, q, s⟩ := h
    rw [e]
    exact ⟨w, t.take i, rfl, q, RVs.take i s⟩
theorem RVs.drop : ∀ {ps : List PV} {vs : List V} (i : Nat), RVs K φ H ps vs → RVs K φ H (ps.drop i) (vs.drop i)
  | _, _, 0, h => h
  | [], vs, i + 1, h => by
    rw [show vs = [] from h]
    exact rfl
  | q :: ps, vs, i + 1, h => by
    obtain ⟨w, t, e, q, s⟩ := h
    rw [e]
    exact RVs.drop i s
/-- all is as it was at φ, and the plain heap the same -/
theorem Sim.mem {h : PH} (s : Sim K φ h H) {a : Addr} (m : a ∈ φ) : ∃ ho, H a = some ho := by
  obtain ⟨n, hn, e⟩ := List.mem_iff_getElem.mp m
  have hn' : n < h.length := by rw [← s.len]; exact hn
  obtain ⟨a', ho, e1, e2, _⟩ := s.ob n h[n] (List.getElem?_eq_getElem hn')
  rw [List.getElem?_eq_getElem hn] at e1
  have : a = a' := by rw [← e]; exact Option.some.inj e1
  exact ⟨ho, by rw [this]; exact e2⟩
theorem Sim.out {h : PH} (s : Sim K φ h H) {a : Addr} (n : H a = none) : a ∉ φ := fun m => by
  obtain ⟨ho, e⟩ := s.mem m
  rw [n] at e
  cases e
/-- tables and code objects stay -/
theorem tabs_keep {T : List (Addr × Str)} (k : ∀ b o, H b = some o → ((∃ ps, o = .tbl ps) ∨ ∃ f, o = .ext f) → H' b = some o) (t : LamX.Tabs T H) : LamX.Tabs T H' := fun p hp => by
  obtain ⟨ps, e1, e2, e3⟩ := t p hp
  refine ⟨ps, k _ _ e1 (.inl ⟨ps, rfl⟩), e2, fun pos cv hc => ?_⟩
  obtain ⟨c, f1, f2⟩ := e3 pos cv hc
  exact ⟨c, f1, k _ _ f2 (.inr ⟨_, rfl⟩)⟩
theorem tabs_upd {T : List (Addr × Str)} {a : Addr} {u : HO} (ha : ∀ o, H a = some o → (∀ ps, o ≠ .tbl ps) ∧ ∀ f, o ≠ .ext f) (t : LamX.Tabs T H) : LamX.Tabs T (upd H a u) := tabs_keep (fun b o e z => by
  have n : b ≠ a := fun q => by
    subst q
    obtain ⟨h1, h2⟩ := ha o e
    rcases z with ⟨ps, z⟩ | ⟨f, z⟩
    · exact h1 ps z
    · exact h2 f z
  rw [upd_ne n]
  exact e) t
/-- an object of the plain heap is no table -/
theorem RO.plain {o : PO} {ho : HO} (r : RO K φ H o ho) : (∀ ps, ho ≠ .tbl ps) ∧ ∀ f, ho ≠ .ext f := by
  cases o with
  | lst l =>
    obtain ⟨vs, e, _⟩ := r
    subst e
    exact ⟨fun _ z => (by cases z), fun _ z => (by cases z)⟩
  | dct l =>
    obtain ⟨vs, e, _⟩ := r
    subst e
    exact ⟨fun _ z => (by cases z), fun _ z => (by cases z)⟩
  | obj c fs =>
    obtain ⟨dx, kvs, e, _⟩ := r
    subst e
    exact ⟨fun _ z => (by cases z), fun _ z => (by cases z)⟩
  | dtp l =>
    obtain ⟨vs, e, _⟩ := r
    subst e
    exact ⟨fun _ z => (by cases z), fun _ z => (by cases z)⟩
theorem Sim.plain {h : PH} (s : Sim K φ h H) {a : Addr} (m : a ∈ φ) : ∀ o, H a = some o → (∀ ps, o ≠ .tbl ps) ∧ ∀ f, o ≠ .ext f := fun o eo => by
  obtain ⟨n, hn, e⟩ := List.mem_iff_getElem.mp m
  have hn' : n < h.length := by rw [← s.len]; exact hn
  obtain ⟨a', ho, e1, e2, r⟩ := s.ob n h[n] (List.getElem?_eq_getElem hn')
  rw [List.getElem?_eq_getElem hn] at e1
  have : a = a' := by rw [← e]; exact Option.some.inj e1
  subst this
  rw [eo] at e2
  cases e2
  exact r.plain
theorem none_plain {a : Addr} (n : H a = none) : ∀ o, H a = some o → (∀ ps, o ≠ .tbl ps) ∧ ∀ f, o ≠ .ext f := fun o e => by
  rw [n] at e
  cases e
theorem lst_plain {a : Addr} {vs : List V} (n : H a = some (.lst vs)) : ∀ o, H a = some o → (∀ ps, o ≠ .tbl ps) ∧ ∀ f, o ≠ .ext f := fun o e => by
  rw [n] at e
  cases e
  exact ⟨fun _ z => (by cases z), fun _ z => (by cases z)⟩
/-- a new thing that is not of the plain heap -/
theorem Ext.new {p : Addr} {o : HO} (n : H p = none) : Ext φ φ H (upd H p o) := ⟨⟨[], by simp⟩, fun a u e _ _ => by rw [upd_ne (ne_of_none e n)]; exact e, fun _ h z => absurd h z⟩
theorem Sim.new {h : PH} {p : Addr} {o : HO} (s : Sim K φ h H) (n : H p = none) : Sim K φ h (upd H p o) := ⟨s.len, s.nd, fun m u e => by
  obtain ⟨a, ho, e1, e2, r⟩ := s.ob m u e
  exact ⟨a, ho, e1, by rw [upd_ne (ne_of_none e2 n)]; exact e2, r.mono (Ext.new n)⟩, tabs_upd (none_plain n) s.tb⟩
/-- a new object of the plain heap -/
theorem Ext.push {p : Addr} {o : HO} (n : H p = none) : Ext φ (φ ++ [p]) H (upd H p o) := ⟨⟨[p], rfl⟩, fun a u e _ _ => by rw [upd_ne (ne_of_none e n)]; exact e, fun a h z => by
  rcases List.mem_append.mp h with h | h
  · exact absurd h z
  · intro o e
    rw [List.mem_singleton.mp h, n] at e
    cases e⟩
theorem Sim.pushO {h : PH} {p : Addr} {o : PO} {ho : HO} (s : Sim K φ h H) (n : H p = none) (r : RO K φ H o ho) : Sim K (φ ++ [p]) (h ++ [o]) (upd H p ho) := by
  have x : Ext φ (φ ++ [p]) H (upd H p ho) := Ext.push n
  refine ⟨by rw [List.length_append, List.length_append, s.len]; rfl, ?_, fun m u e => ?_, tabs_upd (none_plain n) s.tb⟩
  · rw [List.nodup_append]
    refine ⟨s.nd, by simp, fun a ha b hb => ?_⟩
    rw [List.mem_singleton.mp hb]
    intro z
    exact s.out n (z ▸ ha)
  · by_cases hm : m < h.length
    · rw [List.getElem?_append_left hm] at e
      obtain ⟨a, ho, e1, e2, r'⟩ := s.ob m u e
      exact ⟨a, ho, x.at e1, by rw [upd_ne (ne_of_none e2 n)]; exact e2, r'.mono x⟩
    · have em : m = h.length := by
        have := (List.getElem?_eq_some_iff.mp e).1
        rw [List.length_append] at this
        simp at this
        omega
      subst em
      rw [List.getElem?_append_right (Nat.le_refl _), Nat.sub_self] at e
      have eu : o = u := Option.some.inj e
      subst eu
      refine ⟨p, ho, ?_, upd_same, r.mono x⟩
      rw [List.getElem?_append_right (by rw [s.len]; exact Nat.le_refl _), s.len, Nat.sub_self]
      rfl
theorem Sim.push {h : PH} {p : Addr} {l : List PV} {vs : List V} (s : Sim K φ h H) (n : H p = none) (r : RVs K φ H l vs) : Sim K (φ ++ [p]) (h ++ [.lst l]) (upd H p (.lst vs)) := s.pushO n (o := .lst l) ⟨vs, rfl, r⟩
/-- an object of the plain heap is changed -/
theorem Ext.write {h : PH} {a : Addr} {o : HO} (s : Sim K φ h H) (m : a ∈ φ) : Ext φ φ H (upd H a o) := ⟨⟨[], by simp⟩, fun b u e n _ => by
  have z : b ≠ a := fun z => n (by rw [z]; exact m)
  rw [upd_ne z]
  exact e, fun _ h z => absurd h z⟩
theorem nodup_at {l : List Addr} (nd : l.Nodup) {i j : Nat} {x : Addr} (a : l[i]? = some x) (b : l[j]? = some x) : i = j := by
  obtain ⟨h1, e1⟩ := List.getElem?_eq_some_iff.mp a
  obtain ⟨h2, e2⟩ := List.getElem?_eq_some_iff.mp b
  exact (List.getElem_inj nd).mp (e1.trans e2.symm)
theorem Sim.writeO {h : PH} {n : Nat} {a : Addr} {o : PO} {ho : HO} (s : Sim K φ h H) (e : φ[n]? = some a) (r : RO K φ H o ho) : Sim K φ (h.set n o) (upd H a ho) := by
  have x : Ext φ φ H (upd H a ho) := Ext.write s (List.mem_of_getElem? e)
  refine ⟨by rw [List.length_set, s.len], s.nd, fun m u q => ?_, tabs_upd (s.plain (List.mem_of_getElem? e)) s.tb⟩
  by_cases hm : m = n
  · subst hm
    have hl : m < h.length := by
      have := (List.getElem?_eq_some_iff.mp e).1
      rw [← s.len]
      exact this
    rw [List.getElem?_set_self hl] at q
    have eu : o = u := Option.some.inj q
    subst eu
    exact ⟨a, ho, e, upd_same, r.mono x⟩
  · rw [List.getElem?_set_ne (Ne.symm hm)] at q
    obtain ⟨b, ho, e1, e2, r'⟩ := s.ob m u q
    refine ⟨b, ho, e1, ?_, r'.mono x⟩
    rw [upd_ne]
    · exact e2
    · intro z
      subst z
      exact hm (nodup_at s.nd e1 e)
theorem Sim.write {h : PH} {n : Nat} {a : Addr} {l : List PV} {vs : List V} (s : Sim K φ h H) (e : φ[n]? = some a) (r : RVs K φ H l vs) : Sim K φ (h.set n (.lst l)) (upd H a (.lst vs)) := s.writeO e (o := .lst l) ⟨vs, rfl, r⟩
/-- a list that is not of the plain heap -/
theorem Kp.aside {D : Addr} {ws ws' : List V} (e : H D = some (.lst ws)) : Kp φ φ H (upd H D (.lst ws')) := ⟨fun _ _ q => q, fun a o f q n => ⟨by
  rw [upd_ne (fun z => by
    subst z
    rw [e] at q
    cases q
    cases f)]
  exact q, n⟩⟩
theorem Sim.aside {h : PH} {D : Addr} {ws ws' : List V} (s : Sim K φ h H) (e : H D = some (.lst ws)) (n : D ∉ φ) : Sim K φ h (upd H D (.lst ws')) := ⟨s.len, s.nd, fun m u q => by
  obtain ⟨a, ho, e1, e2, r⟩ := s.ob m u q
  refine ⟨a, ho, e1, ?_, r.monoK (Kp.aside e)⟩
  rw [upd_ne (fun z => n (by rw [← z]; exact List.mem_of_getElem? e1))]
  exact e2, tabs_upd (lst_plain e) s.tb⟩
theorem Ext.aside {D : Addr} {o : HO} (x : Ext φ φ' H H') (n : H D = none) : Ext φ φ' H (upd H' D o) := ⟨x.pre, fun a u e m nt => by
  rw [upd_ne (ne_of_none e n)]
  exact x.keep a u e m nt, x.fresh⟩
/-- .. it becomes one of the plain heap -/
theorem Kp.adopt {D : Addr} {ws : List V} (e : H D = some (.lst ws)) : Kp φ (φ ++ [D]) H H := ⟨fun n a q => by
  rw [List.getElem?_append_left (List.getElem?_eq_some_iff.mp q).1]
  exact q, fun a o f q n => ⟨q, fun m => by
  rcases List.mem_append.mp m with z | z
  · exact n z
  · rw [List.mem_singleton.mp z, e] at q
    cases q
    cases f⟩⟩
theorem Sim.adopt {h : PH} {D : Addr} {l : List PV} {ws : List V} (s : Sim K φ h H) (e : H D = some (.lst ws)) (n : D ∉ φ) (r : RVs K φ H l ws) : Sim K (φ ++ [D]) (h ++ [.lst l]) H := by
  have x : Kp φ (φ ++ [D]) H H := Kp.adopt e
  refine ⟨by rw [List.length_append, List.length_append, s.len]; rfl, ?_, fun m u q => ?_, s.tb⟩
  · rw [List.nodup_append]
    refine ⟨s.nd, by simp, fun a ha b hb => ?_⟩
    rw [List.mem_singleton.mp hb]
    intro z
    exact n (z ▸ ha)
  · by_cases hm : m < h.length
    · rw [List.getElem?_append_left hm] at q
      obtain ⟨a, ho, e1, e2, r'⟩ := s.ob m u q
      exact ⟨a, ho, x.pl m a e1, e2, r'.monoK x⟩
    · have em : m = h.length := by
        have := (List.getElem?_eq_some_iff.mp q).1
        rw [List.length_append] at this
        simp at this
        omega
      subst em
      rw [List.getElem?_append_right (Nat.le_refl _), Nat.sub_self] at q
      have eu : PO.lst l = u := Option.some.inj q
      subst eu
      refine ⟨D, .lst ws, ?_, e, ws, rfl, r.monoK x⟩
      rw [List.getElem?_append_right (by rw [s.len]; exact Nat.le_refl _), s.len, Nat.sub_self]
      rfl
theorem Ext.adopt {D : Addr} (x : Ext φ φ' H H') (n : H D = none) : Ext φ (φ' ++ [D]) H H' := ⟨by
  obtain ⟨t, e⟩ := x.pre
  exact ⟨t ++ [D], by rw [e, List.append_assoc]⟩, x.keep, fun a m z => by
  rcases List.mem_append.mp m with q | q
  · exact x.fresh a q z
  · intro o e
    rw [List.mem_singleton.mp q, n] at e
    cases e⟩
theorem Sim.lst {h : PH} {n : Nat} {l : List PV} (s : Sim K φ h H) (e : h[n]? = some (.lst l)) : ∃ a vs, φ[n]? = some a ∧ H a = some (.lst vs) ∧ RVs K φ H l vs := by
  obtain ⟨a, ho, e1, e2, vs, e3, r⟩ := s.ob n _ e
  subst e3
  exact ⟨a, vs, e1, e2, r⟩
theorem Sim.dct {h : PH} {n : Nat} {l : List (Key × PV)} (s : Sim K φ h H) (e : h[n]? = some (.dct l)) : ∃ a kvs, φ[n]? = some a ∧ H a = some (.dK kvs) ∧ kvs.map (·.1) = l.map (·.1) ∧ RVs K φ H (l.map (·.2)) (kvs.map (·.2)) := by
  obtain ⟨a, ho, e1, e2, kvs, e3, r⟩ := s.ob n _ e
  subst e3
  exact ⟨a, kvs, e1, e2, r⟩
/-- what a list, a tuple is in the abstract heap -/
theorem Sim.listV {h : PH} {p : PV} {v : V} {l : List PV} (s : Sim K φ h H) (r : RV K φ H p v) (e : listOf h p = some l) : ∃ a vs, v = .ref a ∧ SqL K.K H a vs ∧ RVs K φ H l vs := by
  cases p with
  | cl l' =>
    obtain ⟨a, vs, e1, q, r'⟩ := r
    cases e
    exact ⟨a, vs, e1, q.sq, r'⟩
  | ref n =>
    obtain ⟨a, e1, e2⟩ := r
    unfold listOf at e
    cases q : h[n]? with
    | none => simp only [q] at e; cases e
    | some o =>
      cases o with
      | lst l' =>
        simp only [q] at e
        cases e
        obtain ⟨a', vs, e3, e4, r'⟩ := s.lst q
        rw [e2] at e3
        cases e3
        exact ⟨a, vs, e1, SqL.of e4, r'⟩
      | dct l' => simp only [q] at e; cases e
      | obj c l' => simp only [q] at e; cases e
      | dtp l' => simp only [q] at e; cases e
  | _ => cases e
end
section
variable {K : ZZ} {φ φ' : List Addr} {H H' : Hp}
def RD {κ : Type} (K : ZZ) (φ : List Addr) (H : Hp) (l : List (κ × PV)) (kvs : List (κ × V)) : Prop := kvs.map (·.1) = l.map (·.1) ∧ RVs K φ H (l.map (·.2)) (kvs.map (·.2))
theorem RD.nil {κ : Type} : RD (κ := κ) K φ H [] [] := ⟨rfl, rfl⟩
theorem RD.cons {κ : Type} {k : κ} {p : PV} {v : V} {l : List (κ × PV)} {kvs : List (κ × V)} (h : RV K φ H p v) (r : RD K φ H l kvs) : RD K φ H ((k, p) :: l) ((k, v) :: kvs) := ⟨by simp [r.1], RVs.cons h r.2⟩
theorem RD.inv {κ : Type} {k : κ} {p : PV} {l : List (κ × PV)} {kvs : List (κ × V)} (r : RD K φ H ((k, p) :: l) kvs) : ∃ v t, kvs = (k, v) :: t ∧ RV K φ H p v ∧ RD K φ H l t := by
  cases kvs with
  | nil =>
    have := r.1
    simp at this
  | cons kv t =>
    obtain ⟨k', v⟩ := kv
    obtain ⟨r1, v', t', e, q, s⟩ := r
    simp at r1 e
    obtain ⟨rfl, r2⟩ := r1
    obtain ⟨rfl, rfl⟩ := e
    exact ⟨v, t, rfl, q, r2, s⟩
theorem RD.empty {κ : Type} {kvs : List (κ × V)} (r : RD K φ H [] kvs) : kvs = [] := by
  have := r.1
  simpa using this
theorem RD.monoK {κ : Type} (x : Kp φ φ' H H') {l : List (κ × PV)} {kvs : List (κ × V)} (r : RD K φ H l kvs) : RD K φ' H' l kvs := ⟨r.1, r.2.monoK x⟩
theorem RD.mono {κ : Type} (x : Ext φ φ' H H') {l : List (κ × PV)} {kvs : List (κ × V)} (r : RD K φ H l kvs) : RD K φ' H' l kvs := ⟨r.1, r.2.mono x⟩
theorem RD.length {κ : Type} {l : List (κ × PV)} {kvs : List (κ × V)} (r : RD K φ H l kvs) : l.length = kvs.length := by
  have := congrArg List.length r.1
  simpa using this.symm
theorem RD.val (k : Key) : ∀ {l : List (Key × PV)} {kvs : List (Key × V)}, RD K φ H l kvs → (valP l k = none ∧ valV kvs k = none) ∨ ∃ p v, valP l k = some p ∧ valV kvs k = some v ∧ RV K φ H p v
  | [], kvs, r => by
    rw [r.empty]
    exact .inl ⟨rfl, rfl⟩
  | (k', p) :: l, kvs, r => by
    obtain ⟨v, t, rfl, q, s⟩ := r.inv
    by_cases e : k' = k
    · exact .inr ⟨p, v, by simp [valP, e], valV_pos e, q⟩
    · rcases RD.val k s with ⟨h1, h2⟩ | ⟨p', v', h1, h2, h3⟩
      · exact .inl ⟨by simpa [valP, e] using h1, by rw [valV_neg e]; exact h2⟩
      · exact .inr ⟨p', v', by simpa [valP, e] using h1, by rw [valV_neg e]; exact h2, h3⟩
theorem RD.any (k : Key) {l : List (Key × PV)} {kvs : List (Key × V)} (r : RD K φ H l kvs) : (l.any fun kv => decide (kv.1 = k)) = kvs.any fun kv => decide (kv.1 = k) := by
  have e1 : (l.any fun kv => decide (kv.1 = k)) = (l.map (·.1)).any fun j => decide (j = k) := by rw [List.any_map]; rfl
  have e2 : (kvs.any fun kv => decide (kv.1 = k)) = (kvs.map (·.1)).any fun j => decide (j = k) := by rw [List.any_map]; rfl
  rw [e1, e2, r.1]
theorem RD.repl (k : Key) {p : PV} {v : V} (h : RV K φ H p v) : ∀ {l : List (Key × PV)} {kvs : List (Key × V)}, RD K φ H l kvs → RD K φ H (l.map fun kv => if kv.1 = k then (kv.1, p) else kv) (kvs.map fun kv => if kv.1 = k then (kv.1, v) else kv)
  | [], kvs, r => by
    rw [r.empty]
    exact RD.nil
  | (k', p') :: l, kvs, r => by
    obtain ⟨v', t, rfl, q, s⟩ := r.inv
    rw [List.map_cons, List.map_cons]
    by_cases e : k' = k
    · simp only [e, if_true]
      exact RD.cons h (RD.repl k h s)
    · simp only [e, if_false]
      exact RD.cons q (RD.repl k h s)
theorem RD.snoc (k : Key) {p : PV} {v : V} (h : RV K φ H p v) {l : List (Key × PV)} {kvs : List (Key × V)} (r : RD K φ H l kvs) : RD K φ H (l ++ [(k, p)]) (kvs ++ [(k, v)]) := ⟨by simp [r.1], by
  rw [List.map_append, List.map_append]
  exact r.2.append (RVs.cons h RVs.nil)⟩
theorem RD.put (k : Key) {p : PV} {v : V} (h : RV K φ H p v) {l : List (Key × PV)} {kvs : List (Key × V)} (r : RD K φ H l kvs) : RD K φ H (putP l k p) (putK kvs k v) := by
  unfold putP putK
  rw [r.any k]
  split
  · exact r.repl k h
  · exact r.snoc k h
theorem Sim.dctR {h : PH} {n : Nat} {l : List (Key × PV)} (s : Sim K φ h H) (e : h[n]? = some (.dct l)) : ∃ a kvs, φ[n]? = some a ∧ H a = some (.dK kvs) ∧ RD K φ H l kvs := s.dct e
theorem Sim.writeD {h : PH} {n : Nat} {a : Addr} {l : List (Key × PV)} {kvs : List (Key × V)} (s : Sim K φ h H) (e : φ[n]? = some a) (r : RD K φ H l kvs) : Sim K φ (h.set n (.dct l)) (upd H a (.dK kvs)) := s.writeO e (o := .dct l) ⟨kvs, rfl, r⟩
theorem key_rel {p : PV} {k : Key} {v : V} (r : RV K φ H p v) (e : keyOf p = some k) : v = kV k := by
  cases p with
  | int i =>
    cases e
    exact r
  | str x =>
    cases e
    exact r
  | _ => cases e
end
def RE (K : ZZ) (φ : List Addr) (H : Hp) : Env → St → Prop
  | [], σ => σ = []
  | p :: ρ, σ => ∃ v r, σ = v :: r ∧ (∀ x, p = some x → ∃ y, v = some y ∧ RV K φ H x y) ∧ RE K φ H ρ r
section
variable {K : ZZ} {φ φ' : List Addr} {H H' : Hp}
theorem RE.mono (x : Ext φ φ' H H') : ∀ {ρ : Env} {σ : St}, RE K φ H ρ σ → RE K φ' H' ρ σ
  | [], _, h => h
  | p :: ρ, σ, h => by
    obtain ⟨v, r, e, q, s⟩ := h
    exact ⟨v, r, e, fun y z => by
      obtain ⟨w, e1, e2⟩ := q y z
      exact ⟨w, e1, e2.mono x⟩, RE.mono x s⟩
theorem RE.get : ∀ {ρ : Env} {σ : St} {i : Nat} {p : PV}, RE K φ H ρ σ → ρ[i]? = some (some p) → ∃ v, σ[i]? = some (some v) ∧ RV K φ H p v
  | [], _, _, _, _, e => by simp at e
  | q :: ρ, σ, 0, p, h, e => by
    obtain ⟨v, r, e1, k, s⟩ := h
    simp at e
    obtain ⟨w, e2, e3⟩ := k p e
    exact ⟨w, by rw [e1, e2]; rfl, e3⟩
  | q :: ρ, σ, i + 1, p, h, e => by
    obtain ⟨v, r, e1, k, s⟩ := h
    obtain ⟨w, e2, e3⟩ := RE.get (i := i) s (by simpa using e)
    exact ⟨w, by rw [e1]; simpa using e2, e3⟩
theorem RE.set : ∀ {ρ : Env} {σ : St} {p : PV} {v : V} (i : Nat), RV K φ H p v → RE K φ H ρ σ → RE K φ H (ρ.set i (some p)) (σ.set i (some v))
  | [], σ, _, _, _, _, h => by
    rw [show σ = [] from h]
    exact rfl
  | q :: ρ, σ, p, v, 0, hp, h => by
    obtain ⟨w, r, e1, k, s⟩ := h
    rw [e1]
    exact ⟨some v, r, rfl, fun x e => ⟨v, rfl, by cases e; exact hp⟩, s⟩
  | q :: ρ, σ, p, v, i + 1, hp, h => by
    obtain ⟨w, r, e1, k, s⟩ := h
    rw [e1]
    exact ⟨w, r.set i (some v), rfl, k, RE.set i hp s⟩
theorem RE.unset : ∀ {ρ : Env} {σ : St} (i : Nat), RE K φ H ρ σ → RE K φ H (ρ.set i none) (σ.set i none)
  | [], σ, _, h => by
    rw [show σ = [] from h]
    exact rfl
  | q :: ρ, σ, 0, h => by
    obtain ⟨w, r, e1, k, s⟩ := h
    rw [e1]
    exact ⟨none, r, rfl, fun x e => (by cases e), s⟩
  | q :: ρ, σ, i + 1, h => by
    obtain ⟨w, r, e1, k, s⟩ := h
    rw [e1]
    exact ⟨w, r.set i none, rfl, k, RE.unset i s⟩
theorem RE.unsetA {v : Option V} : ∀ {ρ : Env} {σ : St} (i : Nat), RE K φ H ρ σ → RE K φ H (ρ.set i none) (σ.set i v)
  | [], σ, _, h => by
    rw [show σ = [] from h]
    exact rfl
  | q :: ρ, σ, 0, h => by
    obtain ⟨w, r, e1, k, s⟩ := h
    rw [e1]
    exact ⟨v, r, rfl, fun x e => (by cases e), s⟩
  | q :: ρ, σ, i + 1, h => by
    obtain ⟨w, r, e1, k, s⟩ := h
    rw [e1]
    exact ⟨w, r.set i v, rfl, k, RE.unsetA i s⟩
theorem RE.wipe {ρ : Env} {σ : St} (h : RE K φ H ρ σ) : ∀ is : List Nat, RE K φ H (wipeP ρ is) (L2.wipe σ is)
  | [] => h
  | i :: is => (RE.wipe h is).unset i
end
end Sb
namespace Sb
open PySem PySem.Spec PyProof.Rows L2
theorem tuple_mul1 (l : Addr) (items : Array Value) (n : Nat) (dd : Option Addr) (sl : Array (Option Value)) (u : Tok) :
    Meets (Builtin.«tuple.__mul__» ⟨[.ref l, .int 1 u], []⟩) (fun _ R s => s.heap.get? l = some { cls := .type "tuple", dict := dd, data := .seq items n, slots := sl } ∧ R (.ok (.ret (Value.ref l))) s) :=
  .of_wp fun prog w A R s h => by
    obtain ⟨hp, g, d, tk, os⟩ := s
    obtain ⟨hl, h⟩ := h
    have f1 := AutoSeq1.idx_int
    have c0 : (decide ((1 : Int) < -(2 ^ 63)) || decide ((1 : Int) ≥ 2 ^ 63)) = false := by decide
    have c1 : (items.isEmpty || (1 : Int) == 1) = true := by simp
    wp_walk using wpAny_loadPart' hl
    repeat (first
      | (refine wpAny_ite_false (decide_eq_false (by rw [c0]; exact Bool.false_ne_true)) ?_; wp_walk using wpAny_loadPart' hl)
      | (refine wpAny_ite_true (decide_eq_true c1) ?_; wp_walk using wpAny_loadPart' hl))
    exact ⟨_, rfl, h⟩
theorem tuple_mul0 (l : Addr) (items : Array Value) (n : Nat) (dd : Option Addr) (sl : Array (Option Value)) (u : Tok) (hi : items.isEmpty = false) :
    Meets (Builtin.«tuple.__mul__» ⟨[.ref l, .int 0 u], []⟩) (fun _ R s => s.heap.get? l = some { cls := .type "tuple", dict := dd, data := .seq items n, slots := sl } ∧
      R (.ok (.ret (Value.ref s.heap.objs.size))) { s with heap := s.heap.push { cls := Value.type "tuple", data := Data.seq #[] }, toks := s.toks }) :=
  .of_wp fun prog w A R s h => by
    obtain ⟨hp, g, d, tk, os⟩ := s
    obtain ⟨hl, h⟩ := h
    have f1 := AutoSeq1.idx_int
    have c0 : (decide ((0 : Int) < -(2 ^ 63)) || decide ((0 : Int) ≥ 2 ^ 63)) = false := by decide
    have c1 : (items.isEmpty || (0 : Int) == 1) = false := by rw [hi]; rfl
    have c2 : (decide ((0 : Int) ≤ 0) || items.isEmpty) = true := by simp
    wp_walk using wpAny_loadPart' hl
    repeat (first
      | (refine wpAny_ite_false (decide_eq_false (by rw [c0]; exact Bool.false_ne_true)) ?_; wp_walk using wpAny_loadPart' hl)
      | (refine wpAny_ite_false (decide_eq_false (by rw [c1]; exact Bool.false_ne_true)) ?_; wp_walk using wpAny_loadPart' hl)
      | (refine wpAny_ite_true (decide_eq_true c2) ?_; wp_walk using wpAny_loadPart' hl))
    exact ⟨_, rfl, h⟩
def rRep01 (K : PySem.W.Frag) : R2 := fun x y H Q => ∃ l xs, x = .ref l ∧ SqT K H l xs ∧ xs ≠ [] ∧ ((y = .int 1 ∧ Q (.ref l) H) ∨ (y = .int 0 ∧ ∀ p, H p = none → Q (.ref p) (upd H p (.tup []))))
theorem op_rep01 {X : Cx} : OpR X (binaryOp .Mult) (rRep01 X.K) := by
  intro pins s σ H x y v u Q I rx ry h
  obtain ⟨l, xs, rfl, hT, hne, q⟩ := h
  cases rx
  obtain ⟨its, r, ⟨⟨cls, dd, data, sl⟩, ho, hc, n, hd⟩, hs⟩ := I.tuple hT
  simp only at hc hd
  subst hc hd
  have hi : its.toArray.isEmpty = false := by
    cases its with
    | nil =>
      have := r.length
      exact absurd (List.eq_nil_of_length_eq_zero this) hne
    | cons a b => rfl
  rcases q with ⟨rfl, q⟩ | ⟨rfl, q⟩
  · obtain ⟨t, rfl⟩ := ry
    exact wpAny_binaryOp_repeat_ref (T := "tuple") (U := "int") (by decide) ⟨_, ho, rfl⟩ (fun s' => typeIs_int s' 1 t) noFill_tuple_mul F.fills_int_mul F.slot_int_rmul repeat_tuple F.slot_int_index.lookup
      (call_meets F.slot_int_rmul (typeIs_int s 1 t) F.entry_int_rmul (F.args_int_rmul_2 _ _) (int_rmul_tuple 1 t l its.toArray n dd sl)
        ⟨ho, rfl, ⟨_, ho, rfl⟩, call_meets F.slot_tuple_mul ⟨_, ho, rfl⟩ F.entry_tuple_mul (F.args_tuple_mul_2 _ _) (tuple_mul1 l its.toArray n dd sl t) ⟨ho, ⟨.ref l, H, I, rfl, q⟩⟩⟩)
  · obtain ⟨t, rfl⟩ := ry
    refine wpAny_binaryOp_repeat_ref (T := "tuple") (U := "int") (by decide) ⟨_, ho, rfl⟩ (fun s' => typeIs_int s' 0 t) noFill_tuple_mul F.fills_int_mul F.slot_int_rmul repeat_tuple F.slot_int_index.lookup
      (call_meets F.slot_int_rmul (typeIs_int s 0 t) F.entry_int_rmul (F.args_int_rmul_2 _ _) (int_rmul_tuple 0 t l its.toArray n dd sl)
        ⟨ho, rfl, ⟨_, ho, rfl⟩, call_meets F.slot_tuple_mul ⟨_, ho, rfl⟩ F.entry_tuple_mul (F.args_tuple_mul_2 _ _) (tuple_mul0 l its.toArray n dd sl t hi) ⟨ho, ?_⟩⟩)
    refine ⟨.ref s.heap.objs.size, _, I.laid (t' := s.toks) (o := .tup []) (fun b ob q => Heap.get?_push_of_some _ q) (Nat.le_refl _) ?_, rfl, q _ (I.hok.fresh (Nat.le_refl _))⟩
    exact ⟨Nat.zero_le _, [], .nil, IsTup.new _ _⟩
end Sb
namespace Sb
open PySem PySem.Spec PyProof.Rows L2
/-- how an exception lies: its class, its own dict -/
def RX (K : ZZ) (mg : Str → Option Value) (φ : List Addr) (H : Hp) (x : Exn) (cls : Value) (d : Option Addr) : Prop :=
  cls = .ref (He.ga K.K x.cls) ∧ ∃ fs : List (Str × V), ((d = none ∧ fs = []) ∨ ∃ da, d = some da ∧ H da = some (.xd fs) ∧ da ∉ φ) ∧ fs.map (·.1) = x.ns ∧ RVs K φ H x.vs (fs.map (·.2))
/-- rel: how a plain answer lies; W: what is wanted of an exception; Q: what is wanted of the answer -/
def Out (K : ZZ) (mg : Str → Option Value) {α β : Type} (rel : List Addr → Hp → α → β → Prop) (φ : List Addr) (H : Hp) (W : XK) (Q : β → Hp → Prop) : R α → Prop
  | .ok a h => ∀ φ' H' b, Ext φ φ' H H' → Sim K φ' h H' → rel φ' H' a b → Q b H'
  | .ex x h => ∀ φ' H' cls d, Ext φ φ' H H' → Sim K φ' h H' → RX K mg φ' H' x cls d → W cls d H'
  | .no => False
section
variable {K : ZZ} {mg : Str → Option Value} {α β γ δ : Type} {rel : List Addr → Hp → α → β → Prop} {rel2 : List Addr → Hp → γ → δ → Prop} {φ φ' : List Addr} {H H' : Hp} {W : XK} {Q Q' : β → Hp → Prop}
theorem Out.mono (x : Ext φ φ' H H') : ∀ {m : R α}, Out K mg rel φ H W Q m → Out K mg rel φ' H' W Q m
  | .ok _ _, h => fun φ2 H2 b y s r => h φ2 H2 b (x.trans y) s r
  | .ex _ _, h => fun φ2 H2 c d y s r => h φ2 H2 c d (x.trans y) s r
  | .no, h => h
theorem Out.imp (f : ∀ b H', Q b H' → Q' b H') : ∀ {m : R α}, Out K mg rel φ H W Q m → Out K mg rel φ H W Q' m
  | .ok _ _, h => fun φ2 H2 b y s r => f _ _ (h φ2 H2 b y s r)
  | .ex _ _, h => h
  | .no, h => h
/-- one thing after another -/
theorem Out.bind {m : R γ} {f : γ → PH → R α} (h : Out K mg rel φ H W Q (m.bind f)) :
    Out K mg rel2 φ H W (fun b H' => ∃ φ' a h1, Ext φ φ' H H' ∧ Sim K φ' h1 H' ∧ rel2 φ' H' a b ∧ Out K mg rel φ' H' W Q (f a h1)) m := by
  cases m with
  | ok a h1 => exact fun φ' H' b x s r => ⟨φ', a, h1, x, s, r, h.mono x⟩
  | ex x h1 => exact h
  | no => exact h
/-- the answer is there -/
theorem Out.at {a : α} {h : PH} {b : β} (o : Out K mg rel φ H W Q (.ok a h)) (s : Sim K φ h H) (r : rel φ H a b) : Q b H := o φ H b (Ext.refl _ _) s r
theorem Out.some {o : Option α} {h : PH} (q : Out K mg rel φ H W Q (ofO o h)) : ∃ a, o = .some a ∧ Out K mg rel φ H W Q (.ok a h) := by
  cases o with
  | none => exact q.elim
  | some a => exact ⟨a, rfl, q⟩
end
/-- an answer that is the thing itself -/
def RI {α : Type} (_ : List Addr) (_ : Hp) (a b : α) : Prop := a = b
theorem line_ok {n : Nat} (h : zay n = true) : n ≤ sizeLine := by
  have e : n ≤ 1000000 := of_decide_eq_true h
  have := sizeLine_eq
  omega
theorem line_lt {n : Nat} (h : zay (n + 1) = true) : n < sizeLine := by
  have e : n + 1 ≤ 1000000 := of_decide_eq_true h
  have := sizeLine_eq
  omega
def rOp (K : ZZ) (mg : Str → Option Value) (W : XK) (f : PV → PV → PH → R PV) : R2 := fun x y H Q => ∃ φ h a b, Sim K φ h H ∧ RV K φ H a x ∧ RV K φ H b y ∧ Out K mg (RV K) φ H W Q (f a b h)
/-- a new list -/
theorem Out.alloc {K : ZZ} {mg : Str → Option Value} {φ : List Addr} {H : Hp} {W : XK} {Q : VK} {h : PH} {l : List PV} {vs : List V} (s : Sim K φ h H) (r : RVs K φ H l vs) (o : Out K mg (RV K) φ H W Q (.ok (.ref h.length) (h ++ [.lst l]))) :
    ∀ p, H p = none → Q (.ref p) (upd H p (.lst vs)) := fun p n => o (φ ++ [p]) _ (.ref p) (Ext.push n) (s.push n r) ⟨p, rfl, by
  rw [← s.len, List.getElem?_append_right (Nat.le_refl _), Nat.sub_self]
  rfl⟩
/-- a new tuple -/
theorem Out.tupn {K : ZZ} {mg : Str → Option Value} {φ : List Addr} {H : Hp} {W : XK} {Q : VK} {h : PH} {l : List PV} {vs : List V} (s : Sim K φ h H) (r : RVs K φ H l vs) (o : Out K mg (RV K) φ H W Q (.ok (.tup l) h)) :
    ∀ p, H p = none → Q (.ref p) (upd H p (.tup vs)) := fun p n => o φ _ (.ref p) (Ext.new n) (s.new n) ⟨p, vs, rfl, .inl ⟨.inl upd_same, s.out n⟩, r.mono (Ext.new n)⟩
section
variable {X : Cx} {W : XK}
theorem op_fdivNW : OpR X (binaryOp .FloorDiv) (rI (fun _ j => j ≠ 0 ∧ j.natAbs.log2 < 9000) fun i j => .int (i.fdiv j)) := opI fun _ _ _ _ _ _ _ hc q => floordiv_int hc.1 q (.inl (PyProof.noPylong_of_log2 hc.2))
theorem rep_rel {K : ZZ} {φ : List Addr} {H : Hp} {l : List PV} {vs : List V} (r : RVs K φ H l vs) : ∀ n : Nat, RVs K φ H (List.replicate n l).flatten (List.replicate n vs).flatten
  | 0 => rfl
  | n + 1 => by
    rw [List.replicate_succ, List.replicate_succ, List.flatten_cons, List.flatten_cons]
    exact r.append (rep_rel r n)
theorem bin_ok (op : Operator) : OpR X (binaryOp op) (rOp (zOf X) X.mg W (binop op)) := by
  intro pins s σ H x y v u Q I rx ry hh
  obtain ⟨φ, h, a, b, sm, ra, rb, o⟩ := hh
  unfold binop at o
  split at o
  · exact op_add pins s σ H x y v u Q I rx ry ⟨_, _, ra, rb, o.at sm rfl⟩
  · exact op_sub pins s σ H x y v u Q I rx ry ⟨_, _, ra, rb, o.at sm rfl⟩
  · split at o
    · rename_i hm
      have hm' := of_decide_eq_true hm
      exact op_mulW pins s σ H x y v u Q I rx ry ⟨_, _, ra, rb, hm', o.at sm rfl⟩
    · exact o.elim
  · split at o
    · rename_i hm
      obtain ⟨h1, h2⟩ := Bool.and_eq_true_iff.mp hm
      exact op_fdivNW pins s σ H x y v u Q I rx ry ⟨_, _, ra, rb, ⟨of_decide_eq_true h1, of_decide_eq_true h2⟩, o.at sm rfl⟩
    · exact o.elim
  · split at o
    · exact o.elim
    · rename_i hm
      exact op_modN pins s σ H x y v u Q I rx ry ⟨_, _, ra, rb, hm, o.at sm rfl⟩
  · split at o
    · rename_i hm
      obtain ⟨h12, h3⟩ := Bool.and_eq_true_iff.mp hm
      obtain ⟨h1, h2⟩ := Bool.and_eq_true_iff.mp h12
      exact op_pow pins s σ H x y v u Q I rx ry ⟨_, _, ra, rb, ⟨of_decide_eq_true h1, of_decide_eq_true h2, of_decide_eq_true h3⟩, o.at sm rfl⟩
    · exact o.elim
  · split at o
    · rename_i hm
      exact op_add_str pins s σ H x y v u Q I rx ry ⟨_, _, ra, rb, line_ok hm, o.at sm rfl⟩
    · exact o.elim
  · rename_i m n
    split at o
    · rename_i l k e1 e2
      split at o
      · rename_i hm
        obtain ⟨a1, vs1, f1, g1, r1⟩ := sm.lst e1
        obtain ⟨a2, vs2, f2, g2, r2⟩ := sm.lst e2
        obtain ⟨b1, hx, q1⟩ := ra
        obtain ⟨b2, hy, q2⟩ := rb
        rw [f1] at q1
        rw [f2] at q2
        cases q1
        cases q2
        have hz : zay ((l ++ k).length) = true := by rw [List.length_append]; exact hm
        unfold Sb.alloc at o
        rw [if_pos hz] at o
        exact op_cat pins s σ H x y v u Q I rx ry ⟨a1, a2, vs1, vs2, hx, hy, g1, g2, by rw [← r1.length, ← r2.length]; exact line_ok hm, o.alloc sm (r1.append r2)⟩
      · exact o.elim
    · exact o.elim
  · rename_i m k
    split at o
    · rename_i l e1
      split at o
      · rename_i hm
        obtain ⟨a1, vs1, f1, g1, r1⟩ := sm.lst e1
        obtain ⟨b1, hx, q1⟩ := ra
        rw [f1] at q1
        cases q1
        have hl : vs1.length * k.toNat ≤ 1000 * 1000 := Nat.mul_le_mul (by rw [← r1.length]; exact hm.2.2) (by omega)
        have hs := sizeLine_eq
        exact op_rep pins s σ H x y v u Q I rx ry ⟨a1, k, vs1, hx, rb, g1, by omega, by omega, by omega, o.alloc sm (rep_rel r1 _)⟩
      · exact o.elim
    · exact o.elim
  · rename_i l k
    split at o
    · rename_i hm
      obtain ⟨a1, vs1, hx, h1, r1⟩ := ra
      obtain ⟨a2, vs2, hy, h2, r2⟩ := rb
      refine op_catA pins s σ H x y v u Q I rx ry ⟨a1, a2, vs1, vs2, hx, hy, h1.sq, h2.sq, by rw [← r1.length, ← r2.length]; exact line_ok hm, fun e => ?_, fun _ e => ?_, fun _ _ => o.tupn sm (r1.append r2)⟩
      · subst e
        have : l = [] := List.length_eq_zero_iff.mp r1.length
        subst this
        exact o.at sm ⟨a2, vs2, rfl, h2, r2⟩
      · subst e
        have : k = [] := List.length_eq_zero_iff.mp r2.length
        subst this
        rw [List.append_nil] at o
        exact o.at sm ⟨a1, vs1, rfl, h1, r1⟩
    · exact o.elim
  · rename_i l k
    split at o
    · rename_i hm
      obtain ⟨hm, rfl⟩ := hm
      obtain ⟨a1, vs1, hx, h1, r1⟩ := ra
      exact op_rep01 pins s σ H x y v u Q I rx ry ⟨a1, vs1, hx, h1.sq, fun e => hm (by subst e; exact List.length_eq_zero_iff.mp r1.length), .inl ⟨rb, o.at sm ⟨a1, vs1, rfl, h1, r1⟩⟩⟩
    · split at o
      · rename_i hm
        obtain ⟨hm, rfl⟩ := hm
        obtain ⟨a1, vs1, hx, h1, r1⟩ := ra
        exact op_rep01 pins s σ H x y v u Q I rx ry ⟨a1, vs1, hx, h1.sq, fun e => hm (by subst e; exact List.length_eq_zero_iff.mp r1.length), .inr ⟨rb, o.tupn sm (l := []) (vs := []) rfl⟩⟩
      · exact o.elim
  · exact o.elim
mutual
theorem dp_of {K : ZZ} {φ : List Addr} {h : PH} {H : Hp} (s : Sim K φ h H) : ∀ (n : Nat) (p : PV) (v : V) (d : PyData), RV K φ H p v → pd h n p = some d → Dp K.K H v d
  | n, .non, v, d, r, e => by
    have : v = .non := r
    subst this
    cases n <;> (cases e; exact .non)
  | n, .bl b, v, d, r, e => by
    have : v = .bl b := r
    subst this
    cases n <;> (cases e; exact .bl b)
  | n, .int i, v, d, r, e => by
    have : v = .int i := r
    subst this
    cases n <;> (cases e; exact .int i)
  | n, .str z, v, d, r, e => by
    have : v = .str z := r
    subst this
    have e' : d = .str z := by
      cases n <;> (
        unfold pd at e
        split at e
        · exact (Option.some.inj e).symm
        · cases e)
    subst e'
    exact .str z
  | 0, .tup l, v, d, r, e => by cases e
  | n + 1, .tup l, v, d, r, e => by
    obtain ⟨a, vs, e1, q, r'⟩ := r
    subst e1
    obtain ⟨ds, e2, e3⟩ := Option.map_eq_some_iff.mp (show (mapO (pd h n) l).map .tuple = some d from e)
    subst e3
    exact .tup q.sq (dps_of s n l vs ds r' e2)
  | 0, .cl l, v, d, r, e => by cases e
  | n + 1, .cl l, v, d, r, e => by
    obtain ⟨a, vs, e1, q, r'⟩ := r
    subst e1
    obtain ⟨ds, e2, e3⟩ := Option.map_eq_some_iff.mp (show (mapO (pd h n) l).map .list = some d from e)
    subst e3
    exact .lst q.sq (dps_of s n l vs ds r' e2)
  | 0, .ref m, v, d, r, e => by cases e
  | n + 1, .ref m, v, d, r, e => by
    obtain ⟨a, e1, q⟩ := r
    subst e1
    unfold pd at e
    cases z : h[m]? with
    | none => simp only [z] at e; cases e
    | some o =>
      cases o with
      | lst l =>
        simp only [z] at e
        obtain ⟨a', vs, e4, e5, r'⟩ := s.lst z
        rw [q] at e4
        cases e4
        obtain ⟨ds, e2, e3⟩ := Option.map_eq_some_iff.mp e
        subst e3
        exact .lst (SqL.of e5) (dps_of s n l vs ds r' e2)
      | dct l => simp only [z] at e; cases e
      | obj c l => simp only [z] at e; cases e
      | dtp l => simp only [z] at e; cases e
  | n, .ty t, v, d, r, e => by cases n <;> cases e
  | n, .cls t, v, d, r, e => by cases n <;> cases e
  | n, .xc x ns vs, v, d, r, e => by cases n <;> cases e
  | n, .ste l, v, d, r, e => by cases n <;> cases e
  | n, .exv _ _ _, v, d, r, e => by cases n <;> cases e
theorem dps_of {K : ZZ} {φ : List Addr} {h : PH} {H : Hp} (s : Sim K φ h H) : ∀ (n : Nat) (l : List PV) (vs : List V) (ds : List PyData), RVs K φ H l vs → mapO (pd h n) l = some ds → DpAll K.K H vs ds
  | n, [], vs, ds, r, e => by
    have : vs = [] := r
    subst this
    cases e
    exact .nil
  | n, p :: l, vs, ds, r, e => by
    obtain ⟨v, t, e1, q, r'⟩ := r
    subst e1
    unfold mapO at e
    cases z1 : pd h n p with
    | none => simp only [z1] at e; cases e
    | some d1 =>
      cases z2 : mapO (pd h n) l with
      | none => simp only [z1, z2] at e; cases e
      | some d2 =>
        simp only [z1, z2] at e
        cases e
        exact .cons (dp_of s n p v d1 q z1) (dps_of s n l t d2 r' z2)
end
mutual
theorem pd_shape {h : PH} : ∀ (n : Nat) (p : PV) (d : PyData), pd h n p = some d → d.canLay0 = true ∧ d.depth ≤ n
  | n, .non, d, e => by cases n <;> (cases e; exact ⟨rfl, Nat.zero_le _⟩)
  | n, .bl b, d, e => by cases n <;> (cases e; exact ⟨rfl, Nat.zero_le _⟩)
  | n, .int i, d, e => by cases n <;> (cases e; exact ⟨rfl, Nat.zero_le _⟩)
  | n, .str z, d, e => by
    have e' : strOkP z = true ∧ d = .str z := by
      cases n <;> (
        unfold pd at e
        split at e
        · exact ⟨by assumption, (Option.some.inj e).symm⟩
        · cases e)
    obtain ⟨e1, e2⟩ := e'
    subst e2
    exact ⟨e1, Nat.zero_le _⟩
  | 0, .tup l, d, e => by cases e
  | n + 1, .tup l, d, e => by
    obtain ⟨ds, e2, e3⟩ := Option.map_eq_some_iff.mp (show (mapO (pd h n) l).map .tuple = some d from e)
    subst e3
    obtain ⟨h1, h2⟩ := pds_shape n l ds e2
    exact ⟨h1, by unfold PyData.depth; omega⟩
  | 0, .cl l, d, e => by cases e
  | n + 1, .cl l, d, e => by
    obtain ⟨ds, e2, e3⟩ := Option.map_eq_some_iff.mp (show (mapO (pd h n) l).map .list = some d from e)
    subst e3
    obtain ⟨h1, h2⟩ := pds_shape n l ds e2
    exact ⟨h1, by unfold PyData.depth; omega⟩
  | 0, .ref m, d, e => by cases e
  | n + 1, .ref m, d, e => by
    unfold pd at e
    cases z : h[m]? with
    | none => simp only [z] at e; cases e
    | some o =>
      cases o with
      | lst l =>
        simp only [z] at e
        obtain ⟨ds, e2, e3⟩ := Option.map_eq_some_iff.mp e
        subst e3
        obtain ⟨h1, h2⟩ := pds_shape n l ds e2
        exact ⟨h1, by unfold PyData.depth; omega⟩
      | dct l => simp only [z] at e; cases e
      | obj c l => simp only [z] at e; cases e
      | dtp l => simp only [z] at e; cases e
  | n, .ty t, d, e => by cases n <;> cases e
  | n, .cls t, d, e => by cases n <;> cases e
  | n, .xc x ns vs, d, e => by cases n <;> cases e
  | n, .ste l, d, e => by cases n <;> cases e
  | n, .exv _ _ _, d, e => by cases n <;> cases e
theorem pds_shape {h : PH} : ∀ (n : Nat) (l : List PV) (ds : List PyData), mapO (pd h n) l = some ds → PyData.canLayAll0 ds = true ∧ PyData.depthAll ds ≤ n
  | n, [], ds, e => by
    cases e
    exact ⟨rfl, Nat.zero_le _⟩
  | n, p :: l, ds, e => by
    unfold mapO at e
    cases z1 : pd h n p with
    | none => simp only [z1] at e; cases e
    | some d1 =>
      cases z2 : mapO (pd h n) l with
      | none => simp only [z1, z2] at e; cases e
      | some d2 =>
        simp only [z1, z2] at e
        cases e
        obtain ⟨a1, a2⟩ := pd_shape n p d1 z1
        obtain ⟨b1, b2⟩ := pds_shape n l d2 z2
        refine ⟨?_, ?_⟩
        · show (d1.canLay0 && PyData.canLayAll0 d2) = true
          rw [a1, b1]
          rfl
        · unfold PyData.depthAll
          omega
end
theorem shaped_of {h : PH} {n : Nat} {p : PV} {d : PyData} (e : pd h n p = some d) (hn : n ≤ 64) : SeqAt.shaped d = true := by
  obtain ⟨h1, h2⟩ := pd_shape n p d e
  unfold SeqAt.shaped
  rw [h1, decide_eq_true (show d.depth ≤ 64 by omega)]
  rfl
theorem eqP_ok {K : ZZ} {φ : List Addr} {h : PH} {H : Hp} (s : Sim K φ h H) {a b : PV} {x y : V} {r : Bool} (ra : RV K φ H a x) (rb : RV K φ H b y) (e : eqP h a b = some r) :
    (∃ d e, Dp K.K H x d ∧ Dp K.K H y e ∧ SeqAt.shaped d = true ∧ SeqAt.shaped e = true ∧ PyData.eqv d e = r) ∨ dEqP h a b = some r := by
  unfold eqP at e
  cases z1 : pd h 8 a with
  | none => simp only [z1] at e; exact .inr e
  | some d1 =>
    cases z2 : pd h 8 b with
    | none => simp only [z1, z2] at e; exact .inr e
    | some d2 =>
      simp only [z1, z2] at e
      exact .inl ⟨d1, d2, dp_of s 8 a x d1 ra z1, dp_of s 8 b y d2 rb z2, shaped_of z1 (by decide), shaped_of z2 (by decide), Option.some.inj e⟩
section
variable {X : Cx} {pins : List (Addr × Obj)} {s : Shared} {σ : L2.St} {φ : List Addr} {h : PH} {H : Hp}
theorem dEq_hits (hu : X.A.units + 66 < cLine) (I : Inv X pins σ H s) (sm : Sim (zOf X) φ h H) {k : List (Key × PV)} {ls : List (Key × V)} {vb : List (Key × Value)} (rk : RD (zOf X) φ H k ls) (rb : KV ls vb) (hk : ∀ kv ∈ k, (pd h 8 kv.2).isSome = true) :
    ∀ {l : List (Key × PV)} {ks : List (Key × V)} {va : List (Key × Value)}, RD (zOf X) φ H l ks → KV ks va → (∀ kv ∈ l, (pd h 8 kv.2).isSome = true) → PySem.W.KeqHits X.A.in1 s vb va (l.all (dHit h k))
  | [], ks, va, rl, ra, _ => by
    have := rl.empty
    subst this
    unfold KV at ra
    cases ra
    exact .nil
  | (key, p) :: l, ks, va, rl, ra, hl => by
    obtain ⟨v, t, rfl, rv, rt⟩ := rl.inv
    unfold KV at ra
    cases ra with
    | @cons _ q _ qs hq tq =>
      obtain ⟨q1, q2⟩ := q
      obtain ⟨e1, e2⟩ := hq
      have e1 : key = q1 := e1
      subst e1
      have e2 : RelV v q2 := e2
      have ih := dEq_hits hu I sm rk rb hk rt tq fun kv hm => hl kv (List.mem_cons_of_mem _ hm)
      have rr := rb.val key
      rw [List.all_cons]
      rcases rk.val key with ⟨n1, n2⟩ | ⟨p', v', n1, n2, n3⟩
      · rw [n2] at rr
        rw [show dHit h k (key, p) = false from by unfold dHit; rw [n1], Bool.false_and]
        refine .miss ?_
        cases hv : valueAt vb key with
        | none => rfl
        | some w => rw [hv] at rr; exact rr.elim
      · rw [n2] at rr
        obtain ⟨y, hy, ry⟩ := rr.some_of
        rw [show dHit h k (key, p) = eqvP h p p' from by unfold dHit; rw [n1]]
        obtain ⟨d1, z1⟩ := Option.isSome_iff_exists.mp (hl (key, p) (by simp))
        have z1 : pd h 8 p = some d1 := z1
        have hm : (key, p') ∈ k := by
          unfold valP at n1
          obtain ⟨kv, f1, f2⟩ := Option.map_eq_some_iff.mp n1
          have := List.mem_of_find?_eq_some f1
          have k1 : kv.1 = key := by simpa using List.find?_some f1
          rw [← k1, ← f2]
          exact this
        obtain ⟨d2, z2⟩ := Option.isSome_iff_exists.mp (hk _ hm)
        have z2 : pd h 8 p' = some d2 := z2
        have ev : eqvP h p p' = PyData.eqv d1 d2 := by unfold eqvP; rw [z1, z2]
        obtain ⟨as, r1⟩ := Dp.reads I d1 v q2 (dp_of sm 8 p v d1 rv z1) e2
        obtain ⟨bs, r2⟩ := Dp.reads I d2 v' y (dp_of sm 8 p' v' d2 n3 z2) ry
        rw [ev]
        exact .hit hy (PySem.W.keq_at r1 r2 (shaped_of z1 (by decide)) (shaped_of z2 (by decide)) (by show X.A.units + 1 + 64 < cLine; omega)) ih
theorem dEq_ok (hu : X.A.units + 66 < cLine) {a b : PV} {x y : V} {v u : Value} {r : Bool} {Q : VK} (I : Inv X pins σ H s) (rx : RelV x v) (ry : RelV y u) (sm : Sim (zOf X) φ h H) (ra : RV (zOf X) φ H a x) (rb : RV (zOf X) φ H b y) (e : dEqP h a b = some r) :
    (Q (.bl r) H → wpAny (model X.prog X.w) X.A (compareOp .Eq v u) (EP X pins σ Q) X.xe s) ∧ (Q (.bl (!r)) H → wpAny (model X.prog X.w) X.A (compareOp .NotEq v u) (EP X pins σ Q) X.xe s) := by
  unfold dEqP at e
  split at e
  · rename_i m n
    split at e
    · rename_i l k e1 e2
      unfold dEq at e
      split at e
      · rename_i hall
        obtain ⟨h1, h2⟩ := Bool.and_eq_true_iff.mp hall
        have h1 := List.all_eq_true.mp h1
        have h2 := List.all_eq_true.mp h2
        obtain ⟨a1, hx, f1⟩ := ra
        obtain ⟨b1, hy, f2⟩ := rb
        obtain ⟨a', ks, g1, g2, g3⟩ := sm.dctR e1
        obtain ⟨b', ls, k1, k2, k3⟩ := sm.dctR e2
        rw [f1] at g1
        cases g1
        rw [f2] at k1
        cases k1
        subst hx hy
        cases (show v = Value.ref a1 from rx)
        cases (show u = Value.ref b1 from ry)
        obtain ⟨_, ya, va, rva, da⟩ := (show ObjOk X.prog X.w H s.heap a1 (.dK ks) from I.hok a1 _ g2)
        obtain ⟨_, yb, vb, rvb, db⟩ := (show ObjOk X.prog X.w H s.heap b1 (.dK ls) from I.hok b1 _ k2)
        have hits := dEq_hits hu I sm k3 rvb h2 g3 rva h1
        have el : (va.length == vb.length) = (l.length == k.length) := by rw [← rva.length, ← rvb.length, ← g3.length, ← k3.length]
        have er := Option.some.inj e
        rw [← el] at er
        exact ⟨fun q => PySem.W.keq_eq (knd := mixKind X.prog X.w) ya yb da db (by omega) (fun _ => hits) ⟨.bl _, H, I, rfl, by rw [er]; exact q⟩, fun q => PySem.W.keq_ne (knd := mixKind X.prog X.w) ya yb da db (by omega) (fun _ => hits) ⟨.bl _, H, I, rfl, by rw [er]; exact q⟩⟩
      · cases e
    · cases e
  · cases e
end
section
variable {X : Cx} {W : XK}
theorem RV.isNon {K : ZZ} {φ : List Addr} {H : Hp} {a : PV} {x : V} (r : RV K φ H a x) : decide (x = .non) = isNonP a := by
  cases a with
  | non => rw [show x = .non from r]; rfl
  | bl b => rw [show x = .bl b from r]; rfl
  | int b => rw [show x = .int b from r]; rfl
  | str b => rw [show x = .str b from r]; rfl
  | ty b => rw [show x = .ty b.nm from r]; rfl
  | ref n => obtain ⟨a, e, _⟩ := r; rw [e]; rfl
  | tup n => obtain ⟨a, _, e, _⟩ := r; rw [e]; rfl
  | cl n => obtain ⟨a, _, e, _⟩ := r; rw [e]; rfl
  | cls n =>
    have r' : x = if n = "ValueError" then V.ty "ValueError" else .ref (He.ga K.K n) := r
    rw [r']
    split <;> rfl
  | xc n m l => obtain ⟨a, _, e, _⟩ := r; rw [e]; rfl
  | ste n => obtain ⟨a, e, _⟩ := r; rw [e]; rfl
  | exv n m l => obtain ⟨a, _, e, _⟩ := r; rw [e]; rfl
theorem _root_.L2.Room.u66 {k : Nat} {A : Around} (r : Room k A) : A.units + 66 < cLine := by have := r.un; omega
/-- x in a list, a tuple, by data -/
theorem inSeq_ok {K : ZZ} {φ : List Addr} {h : PH} {H : Hp} (s : Sim K φ h H) {a : PV} {x : V} {l : List PV} {vs : List V} {r : Bool} (ra : RV K φ H a x) (rl : RVs K φ H l vs) (e : inSeqP h a l = some r) :
    ∃ d ds, Dp K.K H x d ∧ DpAll K.K H vs ds ∧ SeqAt.shaped d = true ∧ SeqAt.shaped (.list ds) = true ∧ (ds.any fun z => PyData.eqv z d) = r := by
  unfold inSeqP at e
  cases z1 : pd h 8 a with
  | none => simp only [z1] at e; cases e
  | some d1 =>
    cases z2 : mapO (pd h 8) l with
    | none => simp only [z1, z2] at e; cases e
    | some d2 =>
      simp only [z1, z2] at e
      obtain ⟨h1, h2⟩ := pds_shape 8 l d2 z2
      refine ⟨d1, d2, dp_of s 8 a x d1 ra z1, dps_of s 8 l vs d2 rl z2, shaped_of z1 (by decide), ?_, Option.some.inj e⟩
      unfold SeqAt.shaped
      have e1 : (PyData.list d2).canLay0 = true := h1
      have e2 : (PyData.list d2).depth ≤ 64 := by unfold PyData.depth; omega
      rw [e1, decide_eq_true e2]
      rfl
theorem in_tupD (hu : X.A.units + 66 < cLine) : OpR X (compareOp .In) (fun x y H Q => ∃ d ds, Dp X.K H x d ∧ Dp X.K H y (.tuple ds) ∧ SeqAt.shaped d = true ∧ SeqAt.shaped (.list ds) = true ∧ Q (.bl (ds.any fun z => PyData.eqv z d)) H) := by
  intro pins s σ H x y v u Q I rx ry h
  obtain ⟨d, ds, hd, he, sd, se, q⟩ := h
  obtain ⟨as, r1⟩ := Dp.reads I d x v hd rx
  obtain ⟨bs, r2⟩ := Dp.reads I (.tuple ds) y u he ry
  exact SeqAt.in_tuple_reads r2 r1 (SeqAt.canLay_of_shaped se) (SeqAt.canLay_of_shaped sd) (room_in_shaped sd (by omega)) ⟨.bl _, H, I, rfl, q⟩
theorem notIn_tupD (hu : X.A.units + 66 < cLine) : OpR X (compareOp .NotIn) (fun x y H Q => ∃ d ds, Dp X.K H x d ∧ Dp X.K H y (.tuple ds) ∧ SeqAt.shaped d = true ∧ SeqAt.shaped (.list ds) = true ∧ Q (.bl (!ds.any fun z => PyData.eqv z d)) H) := by
  intro pins s σ H x y v u Q I rx ry h
  obtain ⟨d, ds, hd, he, sd, se, q⟩ := h
  obtain ⟨as, r1⟩ := Dp.reads I d x v hd rx
  obtain ⟨bs, r2⟩ := Dp.reads I (.tuple ds) y u he ry
  exact SeqAt.notIn_tuple_reads r2 r1 (SeqAt.canLay_of_shaped se) (SeqAt.canLay_of_shaped sd) (room_in_shaped sd (by omega)) ⟨.bl _, H, I, rfl, q⟩
theorem in_ok (hu : X.A.units + 66 < cLine) {pins : List (Addr × Obj)} {s : Shared} {σ : L2.St} {φ : List Addr} {h : PH} {H : Hp} {a b : PV} {x y : V} {v u : Value} {r : Bool} {Q : VK} (I : Inv X pins σ H s) (rx : RelV x v) (ry : RelV y u) (sm : Sim (zOf X) φ h H) (ra : RV (zOf X) φ H a x) (rb : RV (zOf X) φ H b y) (e : inP h a b = some r) :
    (Q (.bl r) H → wpAny (model X.prog X.w) X.A (compareOp .In v u) (EP X pins σ Q) X.xe s) ∧ (Q (.bl (!r)) H → wpAny (model X.prog X.w) X.A (compareOp .NotIn v u) (EP X pins σ Q) X.xe s) := by
  have lst : ∀ {l : List PV}, inSeqP h a l = some r → (∃ ad vs, y = .ref ad ∧ SqL X.K H ad vs ∧ RVs (zOf X) φ H l vs) → (Q (.bl r) H → wpAny (model X.prog X.w) X.A (compareOp .In v u) (EP X pins σ Q) X.xe s) ∧ (Q (.bl (!r)) H → wpAny (model X.prog X.w) X.A (compareOp .NotIn v u) (EP X pins σ Q) X.xe s) := by
    rintro l e1 ⟨ad, vs, hy, hq, rl⟩
    obtain ⟨d, ds, h1, h2, h3, h4, h5⟩ := inSeq_ok sm ra rl e1
    subst hy h5
    exact ⟨fun q => op_inD (by omega) pins s σ H x _ v u Q I rx ry ⟨d, ds, h1, .lst hq h2, h3, h4, q⟩, fun q => op_notInD (by omega) pins s σ H x _ v u Q I rx ry ⟨d, ds, h1, .lst hq h2, h3, h4, q⟩⟩
  cases b with
  | tup l =>
    obtain ⟨ad, vs, hy, hq, rl⟩ := rb
    obtain ⟨d, ds, h1, h2, h3, h4, h5⟩ := inSeq_ok sm ra rl e
    subst hy h5
    exact ⟨fun q => in_tupD hu pins s σ H x _ v u Q I rx ry ⟨d, ds, h1, .tup hq.sq h2, h3, h4, q⟩, fun q => notIn_tupD hu pins s σ H x _ v u Q I rx ry ⟨d, ds, h1, .tup hq.sq h2, h3, h4, q⟩⟩
  | cl l =>
    obtain ⟨ad, vs, hy, hq, rl⟩ := rb
    exact lst e ⟨ad, vs, hy, hq.sq, rl⟩
  | ref n =>
    unfold inP at e
    cases z : h[n]? with
    | none => simp only [z] at e; cases e
    | some o =>
      cases o with
      | lst l =>
        simp only [z] at e
        obtain ⟨ad, hy, q⟩ := rb
        obtain ⟨a', vs, e4, e5, r'⟩ := sm.lst z
        rw [q] at e4
        cases e4
        exact lst e ⟨ad, vs, hy, SqL.of e5, r'⟩
      | dct l =>
        simp only [z] at e
        obtain ⟨k, ek, er⟩ := Option.map_eq_some_iff.mp e
        obtain ⟨ad, hy, q⟩ := rb
        obtain ⟨a', kvs, e4, e5, r'⟩ := sm.dctR z
        rw [q] at e4
        cases e4
        subst hy er
        have hx := key_rel ra ek
        subst hx
        obtain rfl : u = Value.ref ad := ry
        have ev : (valV kvs k).isSome = (valP l k).isSome := by
          rcases r'.val k with ⟨h1, h2⟩ | ⟨_, _, h1, h2, _⟩ <;> rw [h1, h2] <;> rfl
        exact ⟨fun q => d_in (by omega) I (DGet.k e5) rx fun s3 I3 => ⟨.bl _, H, I3, by rw [ev]; rfl, q⟩, fun q => d_notIn (by omega) I (DGet.k e5) rx fun s3 I3 => ⟨.bl _, H, I3, by rw [ev]; rfl, q⟩⟩
      | obj c l => simp only [z] at e; cases e
      | dtp l => simp only [z] at e; cases e
  | str z =>
    cases a with
    | str x' =>
      change signIn x' z = some r at e
      unfold signIn at e
      split at e
      · rename_i c hc
        cases e
        have ex : x' = ⟨#[c]⟩ := by
          have : x'.cps = #[c] := by
            apply Array.toList_inj.mp
            rw [hc]
          cases x'
          simp only at this
          rw [this]
        subst ex
        have h1 : x = .str ⟨#[c]⟩ := ra
        have h2 : y = .str z := rb
        exact ⟨fun q => L2.op_in_sign pins s σ H x y v u Q I rx ry ⟨c, z, h1, h2, q⟩, fun q => L2.op_notIn_sign pins s σ H x y v u Q I rx ry ⟨c, z, h1, h2, q⟩⟩
      · cases e
    | _ => cases e
  | ste l =>
    obtain ⟨k, ek, er⟩ := Option.map_eq_some_iff.mp (show ((keyOf a).map fun k => l.any fun j => decide (j = k)) = some r from e)
    obtain ⟨ad, hy, q, _, _⟩ := rb
    subst hy er
    have hx := key_rel ra ek
    subst hx
    exact ⟨fun z => or_sinK pins s σ H _ _ v u Q I rx ry ⟨k, ad, _, _, rfl, rfl, q, z⟩, fun z => or_snotinK pins s σ H _ _ v u Q I rx ry ⟨k, ad, _, _, rfl, rfl, q, z⟩⟩
  | _ => cases e
theorem cmp_ok (hu : X.A.units + 66 < cLine) (op : CmpOp) : OpR X (compareOp op) (rOp (zOf X) X.mg W (zbi op)) := by
  intro pins s σ H x y v u Q I rx ry hh
  obtain ⟨φ, h, a, b, sm, ra, rb, o⟩ := hh
  unfold zbi at o
  split at o
  · exact op_lt pins s σ H x y v u Q I rx ry ⟨_, _, ra, rb, o.at sm rfl⟩
  · exact op_le pins s σ H x y v u Q I rx ry ⟨_, _, ra, rb, o.at sm rfl⟩
  · exact op_gt pins s σ H x y v u Q I rx ry ⟨_, _, ra, rb, o.at sm rfl⟩
  · exact op_ge pins s σ H x y v u Q I rx ry ⟨_, _, ra, rb, o.at sm rfl⟩
  · exact op_lt_str pins s σ H x y v u Q I rx ry ⟨_, _, ra, rb, o.at sm rfl⟩
  · have q := ra.isNon
    refine op_isN pins s σ H x y v u Q I rx ry ⟨rb, ?_⟩
    rw [q]
    exact o.at sm rfl
  · have q := ra.isNon
    refine op_notN pins s σ H x y v u Q I rx ry ⟨rb, ?_⟩
    rw [q]
    exact o.at sm rfl
  · exact op_isBl pins s σ H x y v u Q I rx ry ⟨_, _, ra, rb, o.at sm rfl⟩
  · exact op_notBl pins s σ H x y v u Q I rx ry ⟨_, _, ra, rb, o.at sm rfl⟩
  · rename_i x1 y1
    have hx : x = .str x1 := ra
    have hy : y = .str y1 := rb
    subst hx hy
    refine op_eq pins s σ H _ _ v u Q I rx ry ⟨rfl, ?_⟩
    rw [dec_str]
    have := o.at sm (b := V.bl (decide (x1 = y1))) rfl
    rwa [show (x1 == y1) = decide (x1 = y1) from by rw [Bool.eq_iff_iff]; simp]
  · rename_i x1 y1
    have hx : x = .str x1 := ra
    have hy : y = .str y1 := rb
    subst hx hy
    refine op_ne pins s σ H _ _ v u Q I rx ry ⟨rfl, ?_⟩
    rw [dec_str]
    have := o.at sm (b := V.bl (!decide (x1 = y1))) rfl
    rwa [show (x1 == y1) = decide (x1 = y1) from by rw [Bool.eq_iff_iff]; simp]
  · obtain ⟨z, e, q⟩ := o.some
    obtain ⟨r, e1, e2⟩ := Option.map_eq_some_iff.mp e
    subst e2
    rcases eqP_ok sm ra rb e1 with ⟨d, e', h1, h2, h3, h4, h5⟩ | e2
    · refine op_eqD (by omega) pins s σ H x y v u Q I rx ry ⟨d, e', h1, h2, h3, h4, ?_⟩
      rw [h5]
      exact q.at sm rfl
    · exact (dEq_ok hu I rx ry sm ra rb e2).1 (q.at sm rfl)
  · obtain ⟨z, e, q⟩ := o.some
    obtain ⟨r, e1, e2⟩ := Option.map_eq_some_iff.mp e
    subst e2
    rcases eqP_ok sm ra rb e1 with ⟨d, e', h1, h2, h3, h4, h5⟩ | e2
    · refine op_neD (by omega) pins s σ H x y v u Q I rx ry ⟨d, e', h1, h2, h3, h4, ?_⟩
      rw [h5]
      exact q.at sm rfl
    · exact (dEq_ok hu I rx ry sm ra rb e2).2 (q.at sm rfl)
  · obtain ⟨z, e, q⟩ := o.some
    obtain ⟨r, e1, e2⟩ := Option.map_eq_some_iff.mp e
    subst e2
    exact (in_ok hu I rx ry sm ra rb e1).1 (q.at sm rfl)
  · obtain ⟨z, e, q⟩ := o.some
    obtain ⟨r, e1, e2⟩ := Option.map_eq_some_iff.mp e
    subst e2
    exact (in_ok hu I rx ry sm ra rb e1).2 (q.at sm rfl)
  · exact op_gt_str pins s σ H x y v u Q I rx ry ⟨_, _, ra, rb, o.at sm rfl⟩
  · exact o.elim
theorem atI_rel {K : ZZ} {φ : List Addr} {H : Hp} {l : List PV} {vs : List V} {i : Int} {p : PV} (r : RVs K φ H l vs) (e : atI l i = some p) : ∃ v, atI vs i = some v ∧ RV K φ H p v := by
  unfold atI at e ⊢
  rw [← r.length]
  cases q : ixN l.length i with
  | none => rw [q] at e; cases e
  | some j =>
    rw [q] at e
    exact r.get e
theorem ix_ok (hu : X.A.units + 1 < cLine) : IxR X (rOp (zOf X) X.mg W idxop) := by
  intro value slice pins s σ H x y v u Q I rx ry hh hs
  obtain ⟨φ, h, a, b, sm, ra, rb, o⟩ := hh
  unfold idxop at o
  split at o
  · split at o
    · rename_i hm
      split at o
      · rename_i c e
        exact ix_str value slice pins s σ H x y v u Q I rx ry ⟨_, _, c, ra, rb, line_ok hm, e, o.at sm rfl⟩ hs
      · exact o.elim
    · exact o.elim
  · rename_i n i _
    split at o
    · rename_i l e
      split at o
      · obtain ⟨p, e1, q⟩ := o.some
        obtain ⟨ad, vs, hx, hq, r⟩ := sm.listV (l := l) ra (by simp only [listOf, e])
        obtain ⟨w, e2, rw'⟩ := atI_rel r e1
        exact ix_list value slice pins s σ H x y v u Q I rx ry ⟨ad, vs, _, w, hx, rb, hq, e2, q.at sm rw'⟩ hs
      · exact o.elim
    · rename_i l e
      split at o
      · rename_i k ek
        obtain ⟨p, e1, q⟩ := o.some
        obtain ⟨ad, hx, qq⟩ := ra
        obtain ⟨a', kvs, e4, e5, r'⟩ := sm.dctR e
        rw [qq] at e4
        cases e4
        have hy := key_rel rb ek
        subst hx hy
        obtain rfl : v = Value.ref ad := rx
        rcases r'.val k with ⟨h1, h2⟩ | ⟨p', v', h1, h2, h3⟩
        · rw [h1] at e1
          cases e1
        · rw [h1] at e1
          cases e1
          have g : DGet H ad (kV k) (some v') := by
            rw [← h2]
            exact DGet.k e5
          exact tail_any (dict_typeIs I g) PySem.F.slot_dict_getitem.lookup (d_getItem hu I g ry fun w' s3 I3 rw' => ⟨v', H, I3, rw', q.at sm h3⟩) hs
      · exact o.elim
    · exact o.elim
  · obtain ⟨p, e1, q⟩ := o.some
    obtain ⟨ad, vs, hx, hq, r⟩ := ra
    obtain ⟨w, e2, rw'⟩ := atI_rel r e1
    exact ix_tup value slice pins s σ H x y v u Q I rx ry ⟨ad, vs, _, w, hx, rb, hq.sq, e2, q.at sm rw'⟩ hs
  · obtain ⟨p, e1, q⟩ := o.some
    obtain ⟨ad, vs, hx, hq, r⟩ := ra
    obtain ⟨w, e2, rw'⟩ := atI_rel r e1
    exact ix_list value slice pins s σ H x y v u Q I rx ry ⟨ad, vs, _, w, hx, rb, hq.sq, e2, q.at sm rw'⟩ hs
  · exact o.elim
def rSetP (K : ZZ) (mg : Str → Option Value) : TSet := fun o i v H Q => ∃ φ h a b c h', Sim K φ h H ∧ RV K φ H a o ∧ RV K φ H b i ∧ RV K φ H c v ∧ setop a b c h = some h' ∧ ∀ H', Ext φ φ H H' → Sim K φ h' H' → Q H'
theorem set_ok (hu : X.A.units + 1 < cLine) : PSet X (rSetP (zOf X) X.mg) := by
  intro pins s σ H o i v ov iv u Q I ro ri rv hh
  obtain ⟨φ, h, a, b, c, h', sm, ra, rb, rc, e, q⟩ := hh
  unfold setop at e
  split at e
  · rename_i n
    split at e
    · rename_i l e1
      split at e
      · rename_i k
        split at e
        · rename_i j e2
          cases e
          obtain ⟨ad, vs, f1, g1, r1⟩ := sm.lst e1
          obtain ⟨b1, hx, q1⟩ := ra
          rw [f1] at q1
          cases q1
          refine set_list pins s σ H o i v ov iv u Q I ro ri rv ⟨ad, vs, k, j, hx, rb, g1, by rw [← r1.length]; exact e2, ?_⟩
          exact q _ (Ext.write sm (List.mem_of_getElem? f1)) (sm.write f1 (r1.set j rc))
        · cases e
      · cases e
    · rename_i l e1
      split at e
      · rename_i k ek
        split at e
        · rename_i hm
          cases e
          obtain ⟨ad, kvs, f1, g1, r1⟩ := sm.dctR e1
          obtain ⟨b1, hx, q1⟩ := ra
          rw [f1] at q1
          cases q1
          have hi := key_rel rb ek
          subst hx hi
          obtain rfl : ov = Value.ref ad := ro
          exact d_setItem hu I (DPut.k g1 (by rw [← r1.length]; exact line_lt hm)) ri rv fun s4 I4 => ⟨_, I4, q _ (Ext.write sm (List.mem_of_getElem? f1)) (sm.writeD f1 (r1.put k rc))⟩
        · cases e
      · cases e
    · cases e
  · cases e
theorem tru_of {K : ZZ} {φ : List Addr} {h : PH} {H : Hp} {a : PV} {x : V} {b : Bool} (sm : Sim K φ h H) (r : RV K φ H a x) (e : truthy h a = some b) : TruV K.K x H b := by
  cases a with
  | non => rw [show x = .non from r]; cases e; rfl
  | bl c => rw [show x = .bl c from r]; cases e; rfl
  | int i => rw [show x = .int i from r]; cases e; rfl
  | str z =>
    rw [show x = .str z from r]
    simp only [truthy] at e
    split at e
    · rename_i hm
      cases e
      refine ⟨line_ok hm, ?_⟩
      by_cases q : 0 < z.length
      · rw [decide_eq_true q]
        exact (by simp; omega)
      · rw [decide_eq_false q]
        have : z.length = 0 := by omega
        rw [this]
        rfl
    · cases e
  | ty t => cases e
  | cls t => cases e
  | xc t ns vs => cases e
  | ste l => cases e
  | exv t ns vs => cases e
  | tup l =>
    obtain ⟨ad, vs, e1, q, r'⟩ := r
    cases e
    subst e1
    refine .inr (.inl ⟨vs, q.sq, ?_⟩)
    cases l with
    | nil => rw [show vs = [] from r']; rfl
    | cons p l => obtain ⟨v, t, e2, _⟩ := r'; rw [e2]; rfl
  | cl l =>
    obtain ⟨ad, vs, e1, q, r'⟩ := r
    cases e
    subst e1
    refine .inl ⟨vs, q.sq, ?_⟩
    cases l with
    | nil => rw [show vs = [] from r']; rfl
    | cons p l => obtain ⟨v, t, e2, _⟩ := r'; rw [e2]; rfl
  | ref n =>
    obtain ⟨ad, e1, q⟩ := r
    subst e1
    unfold truthy at e
    cases z : h[n]? with
    | none => simp only [z] at e; cases e
    | some o =>
      cases o with
      | lst l =>
        simp only [z] at e
        cases e
        obtain ⟨a', vs, e4, e5, r'⟩ := sm.lst z
        rw [q] at e4
        cases e4
        refine .inl ⟨vs, SqL.of e5, ?_⟩
        cases l with
        | nil => rw [show vs = [] from r']; rfl
        | cons p l => obtain ⟨v, t, e2, _⟩ := r'; rw [e2]; rfl
      | dct l =>
        simp only [z] at e
        cases e
        obtain ⟨a', kvs, e4, e5, ek, r'⟩ := sm.dct z
        rw [q] at e4
        cases e4
        refine .inr (.inr ⟨kvs, e5, ?_⟩)
        cases l with
        | nil => rw [show kvs = [] from List.map_eq_nil_iff.mp ek]; rfl
        | cons p l =>
          cases kvs with
          | nil => cases ek
          | cons x y => rfl
      | obj c l => simp only [z] at e; cases e
      | dtp l => simp only [z] at e; cases e
end
end
end Sb
namespace Sb
open PySem PySem.Spec PyProof.Rows L2
def rCa (K : ZZ) (mg : Str → Option Value) (W : XK) (f : List PV → PH → R PV) : List V → Hp → VK → Prop := fun vs H Q => ∃ φ h ps, Sim K φ h H ∧ RVs K φ H ps vs ∧ Out K mg (RV K) φ H W Q (f ps h)
theorem RVs.one {K : ZZ} {φ : List Addr} {H : Hp} {p : PV} {vs : List V} (r : RVs K φ H [p] vs) : ∃ v, vs = [v] ∧ RV K φ H p v := by
  obtain ⟨v, t, e, q, s⟩ := r
  have : t = [] := s
  subst this
  exact ⟨v, e, q⟩
theorem RVs.two {K : ZZ} {φ : List Addr} {H : Hp} {p q : PV} {vs : List V} (r : RVs K φ H [p, q] vs) : ∃ v w, vs = [v, w] ∧ RV K φ H p v ∧ RV K φ H q w := by
  obtain ⟨v, t, e, q, s⟩ := r
  obtain ⟨w, e2, q2⟩ := RVs.one s
  subst e2
  exact ⟨v, w, e, q, q2⟩
theorem kit_all (s t : Ty) : kitB s.nm t.nm = some (isTy s t) := by
  cases s <;> cases t <;> decide +kernel
theorem tyx_of {K : ZZ} {φ : List Addr} {h : PH} {H : Hp} {a : PV} {x : V} {t : Ty} (sm : Sim K φ h H) (r : RV K φ H a x) (e : tyOf h a = some t) : TyX K.K H x (.type t.nm) := by
  cases a with
  | non => rw [show x = .non from r]; cases e; exact .base .non
  | bl c => rw [show x = .bl c from r]; cases e; exact .base (.bl c)
  | int i => rw [show x = .int i from r]; cases e; exact .base (.int i)
  | str z => rw [show x = .str z from r]; cases e; exact .base (.str z)
  | ty t => cases e
  | cls t => cases e
  | xc t ns vs => cases e
  | ste l => cases e
  | exv t ns vs => cases e
  | tup l =>
    obtain ⟨ad, vs, e1, q, r'⟩ := r
    cases e
    subst e1
    rcases q with ⟨q | ⟨o, q⟩, _⟩ | ⟨o, its, n, q1, q2, _⟩
    · exact .base (.tup q)
    · exact .fTuple q
    · exact .kTuple q1 q2
  | cl l =>
    obtain ⟨ad, vs, e1, q, r'⟩ := r
    cases e
    subst e1
    rcases q with ⟨⟨o, q⟩, _⟩ | ⟨o, its, n, q1, q2, _⟩
    · exact .base (.frz q)
    · exact .kList q1 q2
  | ref n =>
    obtain ⟨ad, e1, q⟩ := r
    subst e1
    unfold tyOf at e
    cases z : h[n]? with
    | none => simp only [z] at e; cases e
    | some o =>
      cases o with
      | lst l =>
        simp only [z] at e
        cases e
        obtain ⟨a', vs, e4, e5, r'⟩ := sm.lst z
        rw [q] at e4
        cases e4
        exact .base (.lst e5)
      | dct l =>
        simp only [z] at e
        cases e
        obtain ⟨a', kvs, e4, e5, ek, r'⟩ := sm.dct z
        rw [q] at e4
        cases e4
        exact .base (.dK e5)
      | obj c l => simp only [z] at e; cases e
      | dtp l => simp only [z] at e; cases e
theorem bools_rel {K : ZZ} {φ : List Addr} {H : Hp} : ∀ {l : List PV} {vs : List V} {bs : List Bool}, RVs K φ H l vs → boolsOf l = some bs → vs = bs.map V.bl
  | [], vs, bs, r, e => by
    have : vs = [] := r
    subst this
    cases e
    rfl
  | p :: l, vs, bs, r, e => by
    obtain ⟨v, t, e1, q, s⟩ := r
    cases p with
    | bl b =>
      obtain ⟨bs', e2, e3⟩ := Option.map_eq_some_iff.mp (show (boolsOf l).map (b :: ·) = some bs from e)
      rw [← e3, e1, bools_rel s e2, show v = .bl b from q]
      rfl
    | _ => cases e
theorem tys_rel {K : ZZ} {φ : List Addr} {H : Hp} : ∀ {l : List PV} {vs : List V} {ts : List Ty}, RVs K φ H l vs → tysOf l = some ts → Paired ClsV vs (ts.map fun t => Value.type t.nm)
  | [], vs, bs, r, e => by
    have : vs = [] := r
    subst this
    cases e
    exact .nil
  | p :: l, vs, bs, r, e => by
    obtain ⟨v, t, e1, q, s⟩ := r
    cases p with
    | ty b =>
      obtain ⟨bs', e2, e3⟩ := Option.map_eq_some_iff.mp (show (tysOf l).map (b :: ·) = some bs from e)
      rw [← e3, e1, show v = .ty b.nm from q]
      exact .cons (.ty b.nm) (tys_rel s e2)
    | _ => cases e
theorem kit_any {K : PySem.W.Frag} (s : Ty) : ∀ ts : List Ty, PySem.W.kitAny K (.type s.nm) (ts.map fun t => Value.type t.nm) = some (ts.any (isTy s))
  | [] => kitAny_nil
  | t :: ts => by
    rw [List.map_cons, List.any_cons]
    refine kitAny_cons (b := isTy s t) (kit_ty (kit_all s t)) (fun e => ?_) fun e => ?_
    · rw [e, Bool.false_or]
      exact kit_any s ts
    · rw [e]
      rfl
section
variable {X : Cx} {W : XK}
theorem bi_len : CallR X (.builtin "len") (rCa (zOf X) X.mg W biLen) := by
  intro pins s σ H vs us Q I rv hh
  obtain ⟨φ, h, ps, sm, r, o⟩ := hh
  unfold biLen at o
  split at o
  · rename_i z
    obtain ⟨v, e, q⟩ := r.one
    subst e
    split at o
    · rename_i hm
      exact call_len pins s σ H _ us Q I rv ⟨v, z.length, rfl, by rw [show v = .str z from q]; exact ⟨line_ok hm, rfl⟩, o.at sm rfl⟩
    · exact o.elim
  · rename_i n
    obtain ⟨v, e, q⟩ := r.one
    subst e
    split at o
    · rename_i l e1
      obtain ⟨ad, vs, hx, hq, r'⟩ := sm.listV (l := l) q (by simp only [listOf, e1])
      refine call_len_seq pins s σ H _ us Q I rv ⟨ad, vs, by rw [hx], .inl hq, ?_⟩
      rw [← r'.length]
      exact o.at sm rfl
    · rename_i l e1
      obtain ⟨ad, hx, qq⟩ := q
      obtain ⟨a', kvs, e4, e5, r'⟩ := sm.dctR e1
      rw [qq] at e4
      cases e4
      refine call_lenD pins s σ H _ us Q I rv ⟨ad, kvs, by rw [hx], e5, ?_⟩
      rw [← r'.length]
      exact o.at sm rfl
    · exact o.elim
  · rename_i l
    obtain ⟨v, e, q⟩ := r.one
    subst e
    obtain ⟨ad, vs, hx, hq, r'⟩ := q
    refine call_len_seq pins s σ H _ us Q I rv ⟨ad, vs, by rw [hx], .inr hq.sq, ?_⟩
    rw [← r'.length]
    exact o.at sm rfl
  · rename_i l
    obtain ⟨v, e, q⟩ := r.one
    subst e
    obtain ⟨ad, vs, hx, hq, r'⟩ := q
    refine call_len_seq pins s σ H _ us Q I rv ⟨ad, vs, by rw [hx], .inl hq.sq, ?_⟩
    rw [← r'.length]
    exact o.at sm rfl
  · exact o.elim
theorem bi_all (hc : X.calm = true) : CallR X (.builtin "all") (rCa (zOf X) X.mg W biAll) := by
  intro pins s σ H vs us Q I rv hh
  obtain ⟨φ, h, ps, sm, r, o⟩ := hh
  unfold biAll at o
  split at o
  · obtain ⟨v, e, q⟩ := r.one
    subst e
    split at o
    · rename_i bs e1
      obtain ⟨l, e2, e3⟩ := Option.bind_eq_some_iff.mp e1
      obtain ⟨ad, vs, hx, hq, r'⟩ := sm.listV q e2
      rw [bools_rel r' e3] at hq
      exact cr_all hc pins s σ H _ us Q I rv ⟨ad, bs, by rw [hx], hq, o.at sm rfl⟩
    · exact o.elim
  · exact o.elim
theorem zbr : CallR X (.builtin "isinstance") (rCa (zOf X) X.mg W zb4) := by
  intro pins s σ H vs us Q I rv hh
  obtain ⟨φ, h, ps, sm, r, o⟩ := hh
  unfold zb4 at o
  split at o
  · rename_i a t
    obtain ⟨v, w, e, q, q2⟩ := r.two
    subst e
    split at o
    · rename_i ts e1
      exact call_isi pins s σ H _ us Q I rv ⟨v, .ty t.nm, _, _, _, by rw [show w = .ty t.nm from q2], .ty t.nm, tyx_of sm q e1, kit_ty (kit_all ts t), o.at sm rfl⟩
    · exact o.elim
  · rename_i a l
    obtain ⟨v, w, e, q, q2⟩ := r.two
    subst e
    split at o
    · rename_i ts tl e1 e2
      obtain ⟨ad, vs, hx, hq, r'⟩ := q2
      subst hx
      rcases hq with ⟨hq | ⟨ob, hq⟩, _⟩ | hq
      · exact call_isiT pins s σ H _ us Q I rv ⟨v, ad, vs, _, _, _, rfl, hq, tys_rel r' e2, tyx_of sm q e1, kit_any ts tl, o.at sm rfl⟩
      · exact isiF pins s σ H _ us Q I rv ⟨v, ad, ob, vs, _, _, _, rfl, hq, tys_rel r' e2, tyx_of sm q e1, kit_any ts tl, o.at sm rfl⟩
      · exact isiKT pins s σ H _ us Q I rv ⟨v, ad, vs, _, _, _, rfl, hq, tys_rel r' e2, tyx_of sm q e1, kit_any ts tl, o.at sm rfl⟩
    · exact o.elim
  · exact o.elim
where
  isiF : CallR X (.builtin "isinstance") (fun xs H Q => ∃ (x : V) (tp : Addr) (ob : Obj) (cs : List V) (t : Value) (us : List Value) (b : Bool), xs = [x, .ref tp] ∧ H tp = some (.frz ob (.tup cs)) ∧ Paired ClsV cs us ∧ TyX X.K H x t ∧ PySem.W.kitAny X.K t us = some b ∧ Q (.bl b) H) := by
    intro pins s σ H xs us Q I r h
    obtain ⟨x, tp, ob, cs, t, ws, b, rfl, hT, k, ty, e, q⟩ := h
    obtain ⟨u1, u2, rfl, r1, r2⟩ := vals2 r
    cases (show u2 = Value.ref tp from r2)
    obtain ⟨P, Z, p, hx⟩ := kit_of I r1 ty
    obtain ⟨_, _, its, rv, o, h1, h2, n, h3⟩ := (show ObjOk X.prog X.w H s.heap tp (.frz ob (.tup cs)) from I.hok tp _ hT)
    have e3 := ClsV.all k rv
    subst e3
    obtain ⟨oc, od, dt, sl⟩ := o
    simp only at h2 h3
    subst h2 h3
    exact PySem.W.kia_tup Z I.kIn p h1 e hx fun tk => ⟨.bl b, H, I.tok tk, rfl, q⟩
  isiKT : CallR X (.builtin "isinstance") (fun xs H Q => ∃ (x : V) (tp : Addr) (cs : List V) (t : Value) (us : List Value) (b : Bool), xs = [x, .ref tp] ∧ KT X.K tp cs ∧ Paired ClsV cs us ∧ TyX X.K H x t ∧ PySem.W.kitAny X.K t us = some b ∧ Q (.bl b) H) := by
    intro pins s σ H xs us Q I r h
    obtain ⟨x, tp, cs, t, ws, b, rfl, ⟨o, its, n, h1, h2, h3, hz, rv⟩, k, ty, e, q⟩ := h
    obtain ⟨u1, u2, rfl, r1, r2⟩ := vals2 r
    cases (show u2 = Value.ref tp from r2)
    obtain ⟨P, Z, p, hx⟩ := kit_of I r1 ty
    have e3 := ClsV.all k rv
    obtain ⟨oc, od, dt, sl⟩ := o
    simp only at h2 h3
    subst h2 h3
    have e4 : its = ws.toArray := by rw [← e3]
    subst e4
    exact PySem.W.kia_tup Z I.kIn p (I.kIn _ _ h1) e hx fun tk => ⟨.bl b, H, I.tok tk, rfl, q⟩
theorem ints_rv {K : ZZ} {φ : List Addr} {H : Hp} : ∀ xs : List Int, RVs K φ H (xs.map PV.int) (xs.map V.int)
  | [] => rfl
  | x :: xs => RVs.cons rfl (ints_rv xs)
theorem leStr_iff {x y : Str} : leStr x y = true ↔ ¬ y.cps.toList < x.cps.toList := by
  unfold leStr ltStr
  simp
theorem leStr_trans (a b c : Str) (h1 : leStr a b = true) (h2 : leStr b c = true) : leStr a c = true := by
  rw [leStr_iff] at h1 h2 ⊢
  rw [List.not_lt] at h1 h2 ⊢
  exact List.le_trans h1 h2
theorem leStr_total (a b : Str) : (leStr a b || leStr b a) = true := by
  rw [Bool.or_eq_true, leStr_iff, leStr_iff, List.not_lt, List.not_lt]
  exact List.le_total _ _
theorem leStr_anti {a b : Str} (h1 : leStr a b = true) (h2 : leStr b a = true) : a = b := by
  rw [leStr_iff, List.not_lt] at h1 h2
  have e : a.cps.toList = b.cps.toList := List.le_antisymm h1 h2
  cases a with
  | mk x =>
    cases b with
    | mk y => exact congrArg Str.mk (Array.toList_inj.mp e)
def rMt (K : ZZ) (mg : Str → Option Value) (W : XK) (f : PV → List PV → PH → R PV) : V → List V → Hp → VK → Prop := fun x vs H Q => ∃ φ h p ps, Sim K φ h H ∧ RV K φ H p x ∧ RVs K φ H ps vs ∧ Out K mg (RV K) φ H W Q (f p ps h)
theorem mt_popAt_ok : MtR X "list.pop" (rMt (zOf X) X.mg W mtPopAt) := by
  intro pins s σ H x xs v us Q I rx rs hh
  obtain ⟨φ, h, p, ps, sm, r, r2, o⟩ := hh
  unfold mtPopAt at o
  split at o
  · rename_i n i
    split at o
    · rename_i l e1
      split at o
      · rename_i hm
        split at o
        · rename_i w e2
          obtain ⟨ad, vs, f1, g1, r1⟩ := sm.lst e1
          obtain ⟨b1, hx, q1⟩ := r
          rw [f1] at q1
          cases q1
          obtain ⟨z, e, q⟩ := r2.one
          subst e
          obtain ⟨y, e3, ry⟩ := r1.get e2
          have hlt : i.toNat < vs.length := (List.getElem?_eq_some_iff.mp e3).1
          have hz : vs.length ≤ sizeLine := by
            obtain ⟨hz, _⟩ := (show ObjOk X.prog X.w H s.heap ad (.lst vs) from I.hok ad _ g1)
            exact hz
          have hs := sizeLine_eq
          refine mt_popAt pins s σ H x _ v us Q I rx rs ⟨ad, vs, i, i.toNat, y, hx, by rw [show z = .int i from q], g1, by omega, by omega, PySem.StrLaws.seqIndex_nonneg hm (by omega), e3, ?_⟩
          exact o φ _ _ (Ext.write sm (List.mem_of_getElem? f1)) (sm.write f1 (r1.erase i.toNat)) (ry.mono (Ext.write sm (List.mem_of_getElem? f1)))
        · exact o.elim
      · exact o.elim
    · exact o.elim
  · exact o.elim
end
end Sb
namespace Sb
open PySem PySem.Spec L2
/-- nothing is let out -/
theorem takesN0 {X : Cx} : L2N.Takes X (fun _ _ _ _ => False) := fun _ _ x => by
  obtain ⟨_, _, _, _, _, _, _, _, _, _, _, _, _, _, _, _, z⟩ := x
  exact z.elim
/-- what is wanted of an exception at these slots -/
abbrev atS (W : WX) (σ : St) : XK := fun c d H => W c d σ H
def tE (K : ZZ) (mg : Str → Option Value) (W : WX) (C : Calls) (e : E) : TE := fun σ H Q => ∃ ρ φ h, Sim K φ h H ∧ RE K φ H ρ σ ∧ Out K mg (RV K) φ H (atS W σ) Q (evG C e false ρ h)
def tT (K : ZZ) (mg : Str → Option Value) (W : WX) (C : Calls) (e : E) : TT := fun σ H Q => ∃ ρ φ h, Sim K φ h H ∧ RE K φ H ρ σ ∧ Out K mg RI φ H (atS W σ) Q (evT C e ρ h)
def tAs (K : ZZ) (mg : Str → Option Value) (W : WX) (C : Calls) (es : List E) : TA := fun σ H Q => ∃ ρ φ h, Sim K φ h H ∧ RE K φ H ρ σ ∧ Out K mg (RVs K) φ H (atS W σ) Q (evGs C es ρ h)
/-- the program's expression a is the plain expression e -/
abbrev JE (X : Cx) (W : WX) (C : Calls) (a : Expr) (e : E) : Prop := PE X a (tE (zOf X) X.mg W C e)
abbrev JT (X : Cx) (W : WX) (C : Calls) (a : Expr) (e : E) : Prop := PT X a (tT (zOf X) X.mg W C e)
abbrev JA (X : Cx) (W : WX) (C : Calls) (as : List Expr) (es : List E) : Prop := PA X as (tAs (zOf X) X.mg W C es)
theorem pe_imp {X : Cx} {a : Expr} {t t' : TE} (p : PE X a t) (f : ∀ σ H Q, t' σ H Q → t σ H Q) : PE X a t' := ⟨fun pins s σ H Q I h => p.run pins s σ H Q I (f σ H Q h)⟩
theorem pt_imp {X : Cx} {a : Expr} {t t' : TT} (p : PT X a t) (f : ∀ σ H Q, t' σ H Q → t σ H Q) : PT X a t' := ⟨fun pins s σ H Q I h => p.run pins s σ H Q I (f σ H Q h)⟩
theorem pa_imp {X : Cx} {a : List Expr} {t t' : TA} (p : PA X a t) (f : ∀ σ H Q, t' σ H Q → t σ H Q) : PA X a t' := ⟨fun pos pins s σ H Q I h => p.run pos pins s σ H Q I (f σ H Q h)⟩
section
variable {X : Cx} {W : WX} {C : Calls} {a b c : Expr} {pos : Pos} {ea eb ec : E}
theorem zab (i : Nat) {x : Str} (hN : X.N[i]? = some x := by rfl) (hv : Vis X.env.scope x := by first | exact Or.inl rfl | exact Or.inr (Or.inl rfl) | exact Or.inr (Or.inr rfl)) (hd : (x == ("__debug__" : Str)) = false := by decide)
    (hcd : (x == ("__classdict__" : Str)) = false := by decide) : JE X W C (.Name x pos) (.var i) := pe_imp (pe_var hN hv hd hcd) fun σ H Q ⟨ρ, φ, h, sm, re, o⟩ => by
  have o' : Out (zOf X) X.mg (RV (zOf X)) φ H (atS W σ) Q (ofO (ρ.get i) h) := o
  obtain ⟨p, e, q⟩ := o'.some
  have e' : ρ[i]? = some (some p) := by
    unfold Env.get at e
    split at e
    · rename_i v e2
      rw [e2, Option.some.inj e]
    · cases e
  obtain ⟨v, e3, r⟩ := re.get e'
  exact ⟨v, e3, q.at sm r⟩
theorem je_lit {a : Expr} {v : V} {p : PV} (hp : PE X a (tC v)) (r : ∀ φ H, RV (zOf X) φ H p v) : JE X W C a (.lit p) := pe_imp hp fun σ H Q ⟨ρ, φ, h, sm, re, o⟩ => by
  have o' : Out (zOf X) X.mg (RV (zOf X)) φ H (atS W σ) Q (.ok p h) := o
  exact o'.at sm (r φ H)
theorem zah {i : Int} {j : Nat} : JE X W C (.Constant (.int i) j pos) (.lit (.int i)) := je_lit pe_int fun _ _ => rfl
theorem je_bl {i : Bool} {j : Nat} : JE X W C (.Constant (.bool i) j pos) (.lit (.bl i)) := je_lit pe_bl fun _ _ => rfl
theorem je_non {j : Nat} : JE X W C (.Constant .none j pos) (.lit .non) := je_lit pe_non fun _ _ => rfl
theorem je_str {i : Str} {j : Nat} : JE X W C (.Constant (.str i) j pos) (.lit (.str i)) := je_lit pe_str fun _ _ => rfl
/-- a built-in class by its name -/
theorem je_ty {x : Str} (t : Ty) (hm : X.mg x = none) (hv : bootBuiltins x = some (.type t.nm)) (hg : Gl X x := by rfl) (hn : x ≠ "__name__" := by decide) (hd : (x == ("__debug__" : Str)) = false := by decide) : JE X W C (.Name x pos) (.lit (.ty t)) :=
  je_lit (pe_bltn (v := .ty t.nm) hg hm hv rfl hn hd) fun _ _ => rfl
/-- a constant of the module -/
theorem je_glob {x : Str} {v : V} {u : Value} {p : PV} (hm : X.mg x = some u) (ru : RelV v u) (r : ∀ φ H, RV (zOf X) φ H p v) (hg : Gl X x := by rfl) (hd : (x == ("__debug__" : Str)) = false := by decide) : JE X W C (.Name x pos) (.lit p) := je_lit (pe_glob hg hm ru hd) r
/-- two, one after another -/
theorem two_of {σ : St} {H : Hp} {Q : VK} {ρ : Env} {φ : List Addr} {h : PH} {f : PV → PV → PH → R PV} (sm : Sim (zOf X) φ h H) (re : RE (zOf X) φ H ρ σ) (o : Out (zOf X) X.mg (RV (zOf X)) φ H (atS W σ) Q ((evG C ea false ρ h).bind fun x h1 => (evG C eb false ρ h1).bind fun y h2 => f x y h2)) :
    tOp (fun x y H Q => ∃ W' : XK, rOp (zOf X) X.mg W' f x y H Q) (tE (zOf X) X.mg W C ea) (tE (zOf X) X.mg W C eb) σ H Q :=
  ⟨ρ, φ, h, sm, re, (Out.bind (rel2 := RV (zOf X)) o).imp fun x H1 ⟨φ1, va, h1, x1, s1, r1, o1⟩ => ⟨ρ, φ1, h1, s1, re.mono x1, (Out.bind (rel2 := RV (zOf X)) o1).imp fun y H2 ⟨φ2, vb, h2, x2, s2, r2, o2⟩ => ⟨_, φ2, h2, va, vb, s2, r1.mono x2, r2, o2⟩⟩⟩
theorem opr_any {f : Value → Value → Sem Value} {r : XK → R2} (h : ∀ W, OpR X f (r W)) : OpR X f (fun x y H Q => ∃ W, r W x y H Q) := fun pins s σ H x y v u Q I rx ry ⟨W, q⟩ => h W pins s σ H x y v u Q I rx ry q
theorem ixr_any {r : XK → R2} (h : ∀ W, IxR X (r W)) : IxR X (fun x y H Q => ∃ W, r W x y H Q) := fun value slice pins s σ H x y v u Q I rx ry ⟨W, q⟩ hs => h W value slice pins s σ H x y v u Q I rx ry q hs
theorem zaq {op : Operator} (ha : JE X W C a ea) (hb : JE X W C b eb) : JE X W C (.BinOp a op b pos) (.bin op ea eb) :=
  pe_imp (pe_op (opr_any fun W' => bin_ok (W := W') op) ha hb) fun σ H Q ⟨ρ, φ, h, sm, re, o⟩ => two_of sm re o
theorem je_cmp {op : CmpOp} (hu : X.A.units + 66 < cLine) (ha : JE X W C a ea) (hb : JE X W C b eb) (hm : behindInMarks op b = false := by rfl) : JE X W C (.Compare a [op] [b] pos) (.cmp op ea eb) :=
  pe_imp (pe_cmpR (opr_any fun W' => cmp_ok (W := W') hu op) ha hb hm) fun σ H Q ⟨ρ, φ, h, sm, re, o⟩ => two_of sm re o
theorem je_idx (hu : X.A.units + 66 < cLine) (ha : JE X W C a ea) (hb : JE X W C b eb) (hs : PlainIx b := by exact fun _ _ => rfl) : JE X W C (.Subscript a b pos) (.idx ea eb) :=
  pe_imp (pe_ix (ixr_any fun W' => ix_ok (W := W') (by omega)) ha hb hs) fun σ H Q ⟨ρ, φ, h, sm, re, o⟩ => two_of sm re o
theorem je_neg (ha : JE X W C a ea) : JE X W C (.UnaryOp .USub a pos) (.neg ea) := pe_imp (pe_un un_neg ha) fun σ H Q ⟨ρ, φ, h, sm, re, o⟩ =>
  ⟨ρ, φ, h, sm, re, (Out.bind (rel2 := RV (zOf X)) (show Out (zOf X) X.mg (RV (zOf X)) φ H (atS W σ) Q ((evG C ea false ρ h).bind _) from o)).imp fun x H1 ⟨φ1, va, h1, x1, s1, r1, o1⟩ => by
    cases va with
    | int i => exact ⟨i, r1, o1.at s1 rfl⟩
    | _ => exact (show False from o1).elim⟩
/-- a and b (and ..): the rest of the list -/
theorem je_one {op : BoolOp} (ha : JE X W C a ea) : JE X W C (.BoolOp op [a] pos) ea := pe_one ha
theorem je_and {rest : List Expr} (ha : JE X W C a ea) (hb : JE X W C (.BoolOp .And (b :: rest) pos) eb) : JE X W C (.BoolOp .And (a :: b :: rest) pos) (.band ea eb) := pe_imp (pe_and ha hb) fun σ H Q ⟨ρ, φ, h, sm, re, o⟩ =>
  ⟨ρ, φ, h, sm, re, (Out.bind (rel2 := RV (zOf X)) (show Out (zOf X) X.mg (RV (zOf X)) φ H (atS W σ) Q ((evG C ea false ρ h).bind _) from o)).imp fun x H1 ⟨φ1, va, h1, x1, s1, r1, o1⟩ => by
    cases va with
    | bl i =>
      refine ⟨i, r1, ?_⟩
      cases i with
      | true => exact ⟨ρ, φ1, h1, s1, re.mono x1, o1⟩
      | false => exact o1.at s1 rfl
    | _ => exact (show False from o1).elim⟩
theorem evT_fin {K : ZZ} {mg : Str → Option Value} {φ : List Addr} {H : Hp} {W : XK} {Q : Bool → Hp → Prop} {m : R PV} (o : Out K mg RI φ H W Q (asB (fin true m))) :
    Out K mg (RV K) φ H W (fun x H' => ∃ k, TruV K.K x H' k ∧ Q k H') m := by
  unfold asB fin at o
  rw [if_pos rfl] at o
  cases m with
  | ok p h =>
    intro φ' H' v x s r
    rw [R.bind_ok] at o
    cases e : truthy h p with
    | none => rw [e] at o; exact (show False from o).elim
    | some k =>
      rw [e] at o
      exact ⟨k, tru_of s r e, (show Out K mg RI φ H W Q (.ok k h) from o) φ' H' k x s rfl⟩
  | ex x h => exact o
  | no => exact o
/-- a test that is a value's truth -/
theorem jt_val (ha : JE X W C a ea) (he : ∀ whole, isTrue a X.env whole = (do let v ← whole; standAt a.pos; holding [v] (PySem.truthy v)) := by intro _; rfl) (hf : ∀ ρ h, evG C ea true ρ h = fin true (evG C ea false ρ h) := by intro _ _; rfl) : JT X W C a ea :=
  pt_imp (pt_truth ha he) fun σ H Q ⟨ρ, φ, h, sm, re, o⟩ => ⟨ρ, φ, h, sm, re, evT_fin (by
    have o' : Out (zOf X) X.mg RI φ H (atS W σ) Q (asB (evG C ea true ρ h)) := o
    rw [hf] at o'
    exact o')⟩
theorem ofO_bl {o : Option Bool} {f : Bool → Bool} {h h' : PH} {p : PV} (e : ofO (o.map fun b => PV.bl (f b)) h = .ok p h') : ∃ k, p = .bl k := by
  cases o with
  | none => cases e
  | some k => cases e; exact ⟨_, rfl⟩
theorem cmp_bool {op : CmpOp} {a b : PV} {h : PH} {p : PV} {h' : PH} (e : zbi op a b h = .ok p h') : ∃ k, p = .bl k := by
  unfold zbi at e
  split at e
  all_goals first
    | exact ofO_bl (f := id) e
    | exact ofO_bl (f := fun b => !b) e
    | (cases e; exact ⟨_, rfl⟩)
    | cases e
/-- a comparison as a test -/
theorem za1 {op : CmpOp} (hu : X.A.units + 66 < cLine) (ha : JE X W C a ea) (hb : JE X W C b eb) (hm : behindInMarks op b = false := by rfl) : JT X W C (.Compare a [op] [b] pos) (.cmp op ea eb) :=
  pt_imp (pt_cmpR (opr_any fun W' => cmp_ok (W := W') hu op) ha hb hm) fun σ H Q ⟨ρ, φ, h, sm, re, o⟩ => by
    have o' : Out (zOf X) X.mg RI φ H (atS W σ) Q (asB (fin true ((evG C ea false ρ h).bind fun x h1 => (evG C eb false ρ h1).bind fun y h2 => zbi op x y h2))) := o
    have key : Out (zOf X) X.mg (RV (zOf X)) φ H (atS W σ) (fun x H' => ∃ k, x = .bl k ∧ Q k H') ((evG C ea false ρ h).bind fun x h1 => (evG C eb false ρ h1).bind fun y h2 => zbi op x y h2) := by
      generalize hm : ((evG C ea false ρ h).bind fun x h1 => (evG C eb false ρ h1).bind fun y h2 => zbi op x y h2) = m at o'
      cases m with
      | ok p h' =>
        intro φ' H' v x s r
        have hp : ∃ k, p = .bl k := by
          cases e1 : evG C ea false ρ h with
          | ok va h1 =>
            rw [e1, R.bind_ok] at hm
            cases e2 : evG C eb false ρ h1 with
            | ok vb h2 => rw [e2, R.bind_ok] at hm; exact cmp_bool hm
            | ex _ _ => rw [e2] at hm; cases hm
            | no => rw [e2] at hm; cases hm
          | ex _ _ => rw [e1] at hm; cases hm
          | no => rw [e1] at hm; cases hm
        obtain ⟨k, rfl⟩ := hp
        exact ⟨k, r, (show Out (zOf X) X.mg RI φ H (atS W σ) Q (.ok k h') from o') φ' H' k x s rfl⟩
      | ex x h' => exact o'
      | no => exact o'
    exact two_of sm re key
theorem evT_not (ρ : Env) (h : PH) : evT C (.nt ea) ρ h = (evT C ea ρ h).bind fun k h1 => .ok (!k) h1 := by
  unfold evT
  show asB ((evG C ea true ρ h).bind _) = (asB (evG C ea true ρ h)).bind _
  cases evG C ea true ρ h with
  | ok p h1 => cases p <;> rfl
  | ex x h1 => rfl
  | no => rfl
theorem evT_and (ρ : Env) (h : PH) : evT C (.band ea eb) ρ h = (evT C ea ρ h).bind fun k h1 => if k then evT C eb ρ h1 else .ok false h1 := by
  unfold evT
  show asB ((evG C ea true ρ h).bind _) = (asB (evG C ea true ρ h)).bind _
  cases evG C ea true ρ h with
  | ok p h1 =>
    cases p with
    | bl k => cases k <;> rfl
    | _ => rfl
  | ex x h1 => rfl
  | no => rfl
theorem evT_or (ρ : Env) (h : PH) : evT C (.bor ea eb) ρ h = (evT C ea ρ h).bind fun k h1 => if k then .ok true h1 else evT C eb ρ h1 := by
  unfold evT
  show asB ((evG C ea true ρ h).bind _) = (asB (evG C ea true ρ h)).bind _
  cases evG C ea true ρ h with
  | ok p h1 =>
    cases p with
    | bl k => cases k <;> rfl
    | _ => rfl
  | ex x h1 => rfl
  | no => rfl
theorem jt_not (ha : JT X W C a ea) : JT X W C (.UnaryOp .Not a pos) (.nt ea) := pt_imp (pt_not ha) fun σ H Q ⟨ρ, φ, h, sm, re, o⟩ => by
  rw [evT_not] at o
  exact ⟨ρ, φ, h, sm, re, (Out.bind (rel2 := RI) o).imp fun k H1 ⟨φ1, k1, h1, x1, s1, r1, o1⟩ => by
    have r1' : k1 = k := r1
    subst r1'
    exact o1.at s1 rfl⟩
abbrev JW (X : Cx) (W : WX) (C : Calls) (a : Expr) (e : E) : Prop := PW X a (tT (zOf X) X.mg W C e)
theorem pw_imp {t t' : TT} (p : PW X a t) (f : ∀ σ H Q, t' σ H Q → t σ H Q) : PW X a t' := ⟨fun wh pins s σ H Q I h => p.run wh pins s σ H Q I (f σ H Q h)⟩
theorem jw_and1 (ha : JT X W C a ea) : JW X W C (.BoolOp .And [a] pos) ea := pw_and1 ha
theorem jw_or1 (ha : JT X W C a ea) : JW X W C (.BoolOp .Or [a] pos) ea := pw_or1 ha
theorem jw_and {rest : List Expr} (ha : JT X W C a ea) (hb : JW X W C (.BoolOp .And (b :: rest) pos) eb) : JW X W C (.BoolOp .And (a :: b :: rest) pos) (.band ea eb) := pw_imp (pw_and ha hb) fun σ H Q ⟨ρ, φ, h, sm, re, o⟩ => by
  rw [evT_and] at o
  exact ⟨ρ, φ, h, sm, re, (Out.bind (rel2 := RI) o).imp fun k H1 ⟨φ1, k1, h1, x1, s1, r1, o1⟩ => by
    have r1' : k1 = k := r1
    subst r1'
    cases k1 with
    | true => exact ⟨ρ, φ1, h1, s1, re.mono x1, o1⟩
    | false => exact (show Out (zOf X) X.mg RI φ1 H1 (atS W σ) Q (.ok false h1) from o1).at s1 rfl⟩
theorem jw_or {rest : List Expr} (ha : JT X W C a ea) (hb : JW X W C (.BoolOp .Or (b :: rest) pos) eb) : JW X W C (.BoolOp .Or (a :: b :: rest) pos) (.bor ea eb) := pw_imp (pw_or ha hb) fun σ H Q ⟨ρ, φ, h, sm, re, o⟩ => by
  rw [evT_or] at o
  exact ⟨ρ, φ, h, sm, re, (Out.bind (rel2 := RI) o).imp fun k H1 ⟨φ1, k1, h1, x1, s1, r1, o1⟩ => by
    have r1' : k1 = k := r1
    subst r1'
    cases k1 with
    | false => exact ⟨ρ, φ1, h1, s1, re.mono x1, o1⟩
    | true => exact (show Out (zOf X) X.mg RI φ1 H1 (atS W σ) Q (.ok true h1) from o1).at s1 rfl⟩
theorem jt_bool (h : JW X W C a ea) : JT X W C a ea := PW.pt h
theorem zae : JA X W C [] [] := pa_imp pa_nil fun σ H Q ⟨ρ, φ, h, sm, re, o⟩ => (show Out (zOf X) X.mg (RVs (zOf X)) φ H (atS W σ) Q (.ok [] h) from o).at sm rfl
theorem zaa {es : List Expr} {ees : List E} (ha : JE X W C a ea) (hr : JA X W C es ees) (hs : starEach (a :: es) X.env = (false, eval a X.env) :: starEach es X.env := by rfl) : JA X W C (a :: es) (ea :: ees) :=
  pa_imp (pa_cons ha hr hs) fun σ H Q ⟨ρ, φ, h, sm, re, o⟩ =>
    ⟨ρ, φ, h, sm, re, (Out.bind (rel2 := RV (zOf X)) (show Out (zOf X) X.mg (RVs (zOf X)) φ H (atS W σ) Q ((evG C ea false ρ h).bind fun x h1 => (evGs C ees ρ h1).bind fun l h2 => .ok (x :: l) h2) from o)).imp fun x H1 ⟨φ1, va, h1, x1, s1, r1, o1⟩ =>
      ⟨ρ, φ1, h1, s1, re.mono x1, (Out.bind (rel2 := RVs (zOf X)) o1).imp fun xs H2 ⟨φ2, vb, h2, x2, s2, r2, o2⟩ => o2.at s2 (RVs.cons (r1.mono x2) r2)⟩⟩
/-- a list of values, then what is made of them -/
theorem list_of {σ : St} {H : Hp} {Q : VK} {ρ : Env} {φ : List Addr} {h : PH} {es : List E} {f : List PV → PH → R PV} (sm : Sim (zOf X) φ h H) (re : RE (zOf X) φ H ρ σ) (o : Out (zOf X) X.mg (RV (zOf X)) φ H (atS W σ) Q ((evGs C es ρ h).bind fun l h1 => f l h1)) :
    tAs (zOf X) X.mg W C es σ H (fun vs H1 => ∃ φ1 l h1, Sim (zOf X) φ1 h1 H1 ∧ RVs (zOf X) φ1 H1 l vs ∧ Out (zOf X) X.mg (RV (zOf X)) φ1 H1 (atS W σ) Q (f l h1)) :=
  ⟨ρ, φ, h, sm, re, (Out.bind (rel2 := RVs (zOf X)) o).imp fun xs H1 ⟨φ1, l, h1, x1, s1, r1, o1⟩ => ⟨φ1, l, h1, s1, r1, o1⟩⟩
theorem ta_imp {es : List E} {σ : St} {H : Hp} {Q Q' : List V → Hp → Prop} (f : ∀ vs H, Q vs H → Q' vs H) (t : tAs (zOf X) X.mg W C es σ H Q) : tAs (zOf X) X.mg W C es σ H Q' := by
  obtain ⟨ρ, φ, h, sm, re, o⟩ := t
  exact ⟨ρ, φ, h, sm, re, o.imp f⟩
theorem je_tup {es : List Expr} {ees : List E} {k : Nat} (ha : JA X W C es ees) : JE X W C (.Tuple es k pos) (.tup ees) := pe_imp (pe_tup ha) fun σ H Q ⟨ρ, φ, h, sm, re, o⟩ =>
  ta_imp (fun vs H1 ⟨φ1, l, h1, s1, r1, o1⟩ => by
    unfold tupO at o1
    split at o1
    · rename_i hm
      exact ⟨by rw [← r1.length]; exact line_ok hm, o1.tupn s1 r1⟩
    · exact o1.elim) (list_of (f := tupO) sm re o)
theorem zaj {es : List Expr} {ees : List E} (ha : JA X W C es ees) : JE X W C (.List es pos) (.lst ees) := pe_imp (pe_lst ha) fun σ H Q ⟨ρ, φ, h, sm, re, o⟩ =>
  ta_imp (fun vs H1 ⟨φ1, l, h1, s1, r1, o1⟩ => by
    unfold Sb.alloc at o1
    split at o1
    · rename_i hm
      exact ⟨by rw [← r1.length]; exact line_ok hm, o1.alloc s1 r1⟩
    · exact o1.elim) (list_of (f := Sb.alloc) sm re o)
end
end Sb
namespace Sb
open PySem PySem.Spec L2
def spF (K : ZZ) (mg : Str → Option Value) (C : Calls) (fi np : Nat) : Sp := fun vs H Q E => vs.length = np ∧ ∃ φ h ps, Sim K φ h H ∧ RVs K φ H ps vs ∧ Out K mg (RV K) φ H E Q (C fi ps h)
/-- the def named x is the fi-th; ds: the defaults that fill up -/
structure FnI (P : Program) (w : World) (K : PySem.W.Frag) (mg : Str → Option Value) (base : Heap) (C : Calls) (k : Nat) (x : Str) (fi : Nat) (np : Nat) (ds : List Value) : Prop where
  ex : ∃ (fa : Addr) (fd : FuncData) (ps : List Str), ps.length = np ∧ FnOk P w K mg base (L2N.CX P w) (2 * k + 3) fa fd ps (spF ⟨K, [], P, w⟩ mg C fi np) ∧ mg x = some (.ref fa) ∧ PySem.W.keepIn K (.ref fa) = true ∧ Binds K fd ps ds
theorem evGs_length {C : Calls} : ∀ {es : List E} {ρ : Env} {h h' : PH} {l : List PV}, evGs C es ρ h = .ok l h' → l.length = es.length
  | [], ρ, h, h', l, e => by
    cases e
    rfl
  | e1 :: es, ρ, h, h', l, e => by
    have e' : ((evG C e1 false ρ h).bind fun x h1 => (evGs C es ρ h1).bind fun l h2 => R.ok (x :: l) h2) = .ok l h' := e
    cases z1 : evG C e1 false ρ h with
    | ok x h1 =>
      rw [z1, R.bind_ok] at e'
      cases z2 : evGs C es ρ h1 with
      | ok l2 h2 =>
        rw [z2, R.bind_ok] at e'
        cases e'
        rw [List.length_cons, List.length_cons, evGs_length z2]
      | ex _ _ => rw [z2] at e'; cases e'
      | no => rw [z2] at e'; cases e'
    | ex _ _ => rw [z1] at e'; cases e'
    | no => rw [z1] at e'; cases e'
section
variable {X : Cx} {W : WX} {C : Calls} {a b c : Expr} {as : List Expr} {pos p : Pos} {ea eb ec : E} {ees : List E} {x : Str} {k : Nat}
theorem call_red {fi np : Nat} {ds : List PV} {dvs : List V} {σ : St} {H : Hp} {Q : VK} {ρ : Env} {φ : List Addr} {h : PH} (hl : ees.length + ds.length = np) (rd : ∀ φ H, RVs (zOf X) φ H ds dvs) (sm : Sim (zOf X) φ h H) (re : RE (zOf X) φ H ρ σ)
    (o : Out (zOf X) X.mg (RV (zOf X)) φ H (atS W σ) Q ((evGs C ees ρ h).bind fun l h1 => C fi (l ++ ds) h1)) : tCallSD (spF (zOf X) X.mg C fi np) dvs (WE W) (tAs (zOf X) X.mg W C ees) σ H Q := by
  have key : Out (zOf X) X.mg (RVs (zOf X)) φ H (atS W σ) (fun vs H1 => spF (zOf X) X.mg C fi np (vs ++ dvs) H1 Q (WE W σ)) (evGs C ees ρ h) := by
    cases e : evGs C ees ρ h with
    | ok l h1 =>
      rw [e, R.bind_ok] at o
      intro φ' H' vs x s r
      refine ⟨?_, φ', h1, l ++ ds, s, r.append (rd φ' H'), o.mono x⟩
      rw [List.length_append, ← r.length, ← (rd φ' H').length, evGs_length e]
      exact hl
    | ex y h1 => rw [e] at o; exact o
    | no => rw [e] at o; exact o
  exact ⟨ρ, φ, h, sm, re, key⟩
theorem je_calld {fi np : Nat} {ds : List PV} {dvs : List V} {dus : List Value} (G : FnI X.prog X.w X.K X.mg X.base C k x fi np dus) (hcalm : X.calm = true) (rv : Vals dvs dus) (rd : ∀ φ H, RVs ⟨X.K, [], X.prog, X.w⟩ φ H ds dvs) (hr : Room (2 * k + 4) X.A) (tk : L2N.Takes X W) (ha : JA X W C (a :: as) ees)
    (hl : ees.length + ds.length = np := by rfl) (hg : Gl X x := by rfl) (hdb : (x == ("__debug__" : Str)) = false := by decide) (he : starEach (a :: as) X.env = (false, eval a X.env) :: starEach as X.env := by rfl) (hpl : (backTo pos (starEach as X.env)).any (·.1) = false := by rfl) :
    JE X W C (.Call (.Name x p) (a :: as) [] pos) (.call fi ees ds) := by
  obtain ⟨fa, fd, ps, hps, F, hm, hk, hb⟩ := G.ex
  have hz : zOf X = ⟨X.K, [], X.prog, X.w⟩ := z_calm hcalm
  rw [← hz] at F
  rw [← hz] at rd
  exact pe_imp (pe_callSD F (hr.mono (by omega)) hg hm hk hb rv (fun σ => L2N.passAt tk σ) ha hdb he hpl) fun σ H Q ⟨ρ, φ, h, sm, re, o⟩ => call_red hl rd sm re o
theorem zbv {fi np : Nat} (G : FnI X.prog X.w X.K X.mg X.base C k x fi np []) (hcalm : X.calm = true) (hr : Room (2 * k + 4) X.A) (tk : L2N.Takes X W) (ha : JA X W C (a :: as) ees)
    (hl : ees.length + 0 = np := by rfl) (hg : Gl X x := by rfl) (hdb : (x == ("__debug__" : Str)) = false := by decide) (he : starEach (a :: as) X.env = (false, eval a X.env) :: starEach as X.env := by rfl) (hpl : (backTo pos (starEach as X.env)).any (·.1) = false := by rfl) :
    JE X W C (.Call (.Name x p) (a :: as) [] pos) (.call fi ees []) := je_calld (ds := []) (dvs := []) G hcalm .nil (fun _ _ => rfl) hr tk ha hl hg hdb he hpl
theorem cb_red {f : List PV → PH → R PV} {σ : St} {H : Hp} {Q : VK} {ρ : Env} {φ : List Addr} {h : PH} (sm : Sim (zOf X) φ h H) (re : RE (zOf X) φ H ρ σ)
    (o : Out (zOf X) X.mg (RV (zOf X)) φ H (atS W σ) Q ((evGs C ees ρ h).bind fun l h1 => f l h1)) : tCB (fun vs H Q => ∃ W', rCa (zOf X) X.mg W' f vs H Q) (tAs (zOf X) X.mg W C ees) σ H Q :=
  ta_imp (fun vs H1 ⟨φ1, l, h1, s1, r1, o1⟩ => ⟨_, φ1, h1, l, s1, r1, o1⟩) (list_of sm re o)
theorem cr_any' {f : Value} {r : XK → List V → Hp → VK → Prop} (h : ∀ W, CallR X f (r W)) : CallR X f (fun vs H Q => ∃ W, r W vs H Q) := fun pins s σ H xs us Q I rs ⟨W, q⟩ => h W pins s σ H xs us Q I rs q
theorem zap (bi : BI) {id : String} (hc : ∀ W', CallR X (.builtin id) (rCa (zOf X) X.mg W' (biF bi))) (hm : X.mg x = none) (hv : bootBuiltins x = some (.builtin id)) (ha : JA X W C (a :: as) ees) (hg : Gl X x := by rfl) (hn : x ≠ "__name__" := by decide) (hdb : (x == ("__debug__" : Str)) = false := by decide)
    (he : starEach (a :: as) X.env = (false, eval a X.env) :: starEach as X.env := by rfl) (hpl : (backTo pos (starEach as X.env)).any (·.1) = false := by rfl) : JE X W C (.Call (.Name x p) (a :: as) [] pos) (.bi bi ees) :=
  pe_imp (pe_callB (cr_any' hc) hg hm hv ha hn hdb he hpl) fun σ H Q ⟨ρ, φ, h, sm, re, o⟩ => cb_red sm re o
theorem tyV_of {K : ZZ} {φ : List Addr} {h : PH} {H : Hp} {v : PV} {x : V} {T : Ty} (hT : T = .list ∨ T = .str ∨ T = .dict) (sm : Sim K φ h H) (r : RV K φ H v x) (e : tyOf h v = some T) : tyV K.K T.nm x H := by
  cases v with
  | non => cases e; rcases hT with z | z | z <;> cases z
  | bl c => cases e; rcases hT with z | z | z <;> cases z
  | int i => cases e; rcases hT with z | z | z <;> cases z
  | str z =>
    cases e
    rw [show x = .str z from r]
    rfl
  | ty t => cases e
  | cls t => cases e
  | xc t ns vs => cases e
  | ste l => cases e
  | exv t ns vs => cases e
  | tup l => cases e; rcases hT with z | z | z <;> cases z
  | cl l =>
    obtain ⟨ad, vs, e1, q, r'⟩ := r
    cases e
    subst e1
    exact .inl ⟨rfl, vs, q.sq⟩
  | ref n =>
    obtain ⟨ad, e1, q⟩ := r
    subst e1
    unfold tyOf at e
    cases z : h[n]? with
    | none => simp only [z] at e; cases e
    | some o =>
      cases o with
      | lst l =>
        simp only [z] at e
        cases e
        obtain ⟨a', vs, e4, e5, r'⟩ := sm.lst z
        rw [q] at e4
        cases e4
        exact .inl ⟨rfl, vs, SqL.of e5⟩
      | dct l =>
        simp only [z] at e
        cases e
        obtain ⟨a', kvs, e4, e5, ek, r'⟩ := sm.dct z
        rw [q] at e4
        cases e4
        exact .inr (.inr (.inl ⟨rfl, .inl ⟨kvs, e5⟩⟩))
      | obj c l => simp only [z] at e; cases e
      | dtp l => simp only [z] at e; cases e
theorem mr_any {id : String} {r : XK → V → List V → Hp → VK → Prop} (h : ∀ W, MtR X id (r W)) : MtR X id (fun x vs H Q => ∃ W, r W x vs H Q) := fun pins s σ H x xs v us Q I rx rs ⟨W, q⟩ => h W pins s σ H x xs v us Q I rx rs q
theorem je_mth (m : MT) {o : Expr} {eo : E} {name : Str} {apos cpos : Pos} {id : String} (pa : PlainAttrs m.ty.nm) (slot : Slot m.ty.nm name id) (hty : typeOf (.builtin id) = pure (.type "method_descriptor")) (hm : ∀ W', MtR X id (rMt (zOf X) X.mg W' (mtF m))) (ho : JE X W C o eo) (ha : JA X W C (a :: as) ees)
    (hT : m.ty = .list ∨ m.ty = .str ∨ m.ty = .dict := by first | exact .inl rfl | exact .inr (.inl rfl) | exact .inr (.inr rfl)) (hbase : attributeBase o name X.env (eval o X.env) = eval o X.env := by rfl)
    (hfew : ((backTo cpos (starEach (a :: as) X.env)).all (fun x => !x.1) && (backToKw cpos (keywordEach [] X.env)).all (fun x => x.1.isSome)
      && decide ((a :: as).length + ([] : List Keyword).length + (if ([] : List Keyword).isEmpty then 0 else 1) < 30)) = true := by rfl)
    (hline : (apos.endLine == cpos.line) = true := by rfl) (hs : starEach (a :: as) X.env = (false, eval a X.env) :: starEach as X.env := by rfl) (hplain : (backTo cpos (starEach as X.env)).any (·.1) = false := by rfl) :
    JE X W C (.Call (.Attribute o name apos) (a :: as) [] cpos) (.mth m eo ees) :=
  pe_imp (pe_bm pa slot hty (mr_any hm) ho ha hbase hfew hline hs hplain) fun σ H Q ⟨ρ, φ, h, sm, re, o⟩ =>
    ⟨ρ, φ, h, sm, re, (Out.bind (rel2 := RV (zOf X)) (show Out (zOf X) X.mg (RV (zOf X)) φ H (atS W σ) Q ((evG C eo false ρ h).bind fun x h1 => if tyOf h1 x = some m.ty then (evGs C ees ρ h1).bind fun l h2 => mtF m x l h2 else .no) from o)).imp fun x H1 ⟨φ1, vx, h1, x1, s1, r1, o1⟩ => by
      split at o1
      · rename_i ht
        refine ⟨tyV_of hT s1 r1 ht, ρ, φ1, h1, s1, re.mono x1, (Out.bind (rel2 := RVs (zOf X)) o1).imp fun xs H2 ⟨φ2, l, h2, x2, s2, r2, o2⟩ => ⟨_, φ2, h2, vx, l, s2, r1.mono x2, r2, o2⟩⟩
      · exact o1.elim⟩
end
structure WalkOk (K : ZZ) (J : It) (φ0 : List Addr) (H0 : Hp) (items : List PV) (kp : Keep) : Prop where
  go : ∀ (i : Nat) (φ : List Addr) (h : PH) (H : Hp) (p : PV), Kp φ0 φ H0 H → Sim K φ h H → zbs kp h → items[i]? = some p → J.go i H ∧ ∀ v H', J.yld i H v H' → Ext φ φ H H' ∧ Sim K φ h H' ∧ RV K φ H' p v
  stop : ∀ (i : Nat) (φ : List Addr) (h : PH) (H : Hp), Kp φ0 φ H0 H → Sim K φ h H → zbs kp h → items.length ≤ i → J.stop i H
noncomputable def evI (C : Calls) (k : ITK) (its : List E) (ρ : Env) (h : PH) : R (List PV × Keep) := (evGs C its ρ h).bind fun l h1 => ofO (walkF k l h1) h1
def relW (K : ZZ) (φ : List Addr) (H : Hp) (w : List PV × Keep) (J : It) : Prop := WalkOk K J φ H w.1 w.2
def tI (K : ZZ) (mg : Str → Option Value) (W : WX) (C : Calls) (k : ITK) (its : List E) : TI := fun σ H Q => ∃ ρ φ h, Sim K φ h H ∧ RE K φ H ρ σ ∧ Out K mg (relW K) φ H (atS W σ) Q (evI C k its ρ h)
abbrev JI (X : Cx) (W : WX) (C : Calls) (tg a : Expr) (k : ITK) (its : List E) : Prop := PI X tg a (tI (zOf X) X.mg W C k its)
theorem pi_imp {X : Cx} {tg a : Expr} {t t' : TI} (p : PI X tg a t) (f : ∀ σ H Q, t' σ H Q → t σ H Q) : PI X tg a t' := ⟨fun pins s σ H Q I h => p.run pins s σ H Q I (f σ H Q h)⟩
def iSeqS (K : PySem.W.Frag) (tl : TE) : TI := fun σ H R => tl σ H fun x H1 => (∃ a, x = .ref a ∧ (((∃ xs, SqL K H1 a xs) ∧ R (Itl K a) H1) ∨ ((∃ xs, SqT K H1 a xs) ∧ R (Itt K a) H1))) ∨ ∃ z, x = .str z ∧ R (Its z) H1
theorem pi_seqS {X : Cx} {tg l : Expr} {tl : TE} (hl : PE X l tl) : PI X tg l (iSeqS X.K tl) := by
  refine ⟨fun pins s σ H R I h => ?_⟩
  refine thn (hl.run pins s σ H _ I h) fun v s1 ⟨x, H1, I1, r1, q1⟩ => ?_
  rcases q1 with ⟨a, e, q1⟩ | ⟨z, e, q⟩
  case inr =>
    subst e
    obtain ⟨t, rfl⟩ := r1
    cases ha : z.cps.all (· < 128)
    · exact wpAny_pyIter_wide ha (pi_one (tk := s1.toks) I1 _ (turn_str _ z t "str_iterator" (.inr rfl)) ⟨_, Heap.get?_push_size _ rfl, rfl, rfl⟩ q)
    · exact wpAny_pyIter_ascii ha (pi_one (tk := s1.toks) I1 _ (turn_str _ z t "str_ascii_iterator" (.inl rfl)) ⟨_, Heap.get?_push_size _ rfl, rfl, rfl⟩ q)
  subst e
  cases r1
  rcases q1 with ⟨⟨xs, hq⟩, q⟩ | ⟨⟨xs, hq⟩, q⟩
  · obtain ⟨its, rv, p, hz⟩ := I1.list hq
    refine wpAny_pyIter_list p.isList ?_
    refine ⟨s1.heap.objs.size, [s1.heap.objs.size], _, _, H1, rfl, I1.kept (t' := s1.toks) fun b o e => Heap.get?_push_of_some _ e, turn_list a _, ⟨_, Heap.get?_push_size _ rfl, rfl, rfl⟩, fun b hb => ?_, q⟩
    have e : b = s1.heap.objs.size := by simpa using hb
    subst e
    exact I1.fpOk (Nat.le_refl _) (I1.hok.fresh (Nat.le_refl _))
  · obtain ⟨its, rv, p, hz⟩ := I1.tuple hq
    refine wpAny_pyIter_tuple (show s1.heap.IsTuple a its.toArray from p) ?_
    refine ⟨s1.heap.objs.size, [s1.heap.objs.size], _, _, H1, rfl, I1.kept (t' := s1.toks) fun b o e => Heap.get?_push_of_some _ e, turn_tuple a _, ⟨_, Heap.get?_push_size _ rfl, rfl, rfl⟩, fun b hb => ?_, q⟩
    have e : b = s1.heap.objs.size := by simpa using hb
    subst e
    exact I1.fpOk (Nat.le_refl _) (I1.hok.fresh (Nat.le_refl _))
section
variable {K : ZZ} {φ0 : List Addr} {H0 : Hp}
/-- a list that every later heap has as it was -/
theorem walk_list {a : Addr} {items : List PV} {kp : Keep} (st : ∀ φ h H, Kp φ0 φ H0 H → Sim K φ h H → zbs kp h → ∃ vs, SqL K.K H a vs ∧ RVs K φ H items vs) : WalkOk K (Itl K.K a) φ0 H0 items kp where
  go := fun i φ h H p x s q e => by
    obtain ⟨vs, hs, r⟩ := st φ h H x s q
    obtain ⟨v, e1, rv⟩ := r.get e
    refine ⟨⟨vs, v, hs, e1⟩, fun w H' y => ?_⟩
    obtain ⟨y1, y2⟩ := y
    subst y1
    have := y2 vs hs
    rw [e1] at this
    cases this
    exact ⟨Ext.refl _ _, s, rv⟩
  stop := fun i φ h H x s q e => by
    obtain ⟨vs, hs, r⟩ := st φ h H x s q
    exact ⟨vs, hs, by rw [← r.length]; exact e⟩
theorem walk_tup {a : Addr} {items : List PV} {kp : Keep} (st : ∀ φ h H, Kp φ0 φ H0 H → Sim K φ h H → zbs kp h → ∃ vs, SqT K.K H a vs ∧ RVs K φ H items vs) : WalkOk K (Itt K.K a) φ0 H0 items kp where
  go := fun i φ h H p x s q e => by
    obtain ⟨vs, hs, r⟩ := st φ h H x s q
    obtain ⟨v, e1, rv⟩ := r.get e
    refine ⟨⟨vs, v, hs, e1⟩, fun w H' y => ?_⟩
    obtain ⟨y1, y2⟩ := y
    subst y1
    have := y2 vs hs
    rw [e1] at this
    cases this
    exact ⟨Ext.refl _ _, s, rv⟩
  stop := fun i φ h H x s q e => by
    obtain ⟨vs, hs, r⟩ := st φ h H x s q
    exact ⟨vs, hs, by rw [← r.length]; exact e⟩
theorem walk_str (z : Str) : WalkOk K (Its z) φ0 H0 (z.cps.toList.map fun c => .str ⟨#[c]⟩) [] where
  go := fun i φ h H p x s q e => by
    rw [List.getElem?_map] at e
    obtain ⟨c, e1, e2⟩ := Option.map_eq_some_iff.mp e
    subst e2
    have e3 : z.cps[i]? = some c := by simpa using e1
    refine ⟨(Array.getElem?_eq_some_iff.mp e3).1, fun w H' y => ?_⟩
    obtain ⟨y1, c', y2, y3⟩ := y
    subst y1
    rw [e3] at y2
    cases y2
    exact ⟨Ext.refl _ _, s, y3⟩
  stop := fun i φ h H x s q e => by
    rw [List.length_map] at e
    show z.cps.size ≤ i
    simpa using e
theorem walk_range (n : Int) : WalkOk K (Itr 0 n.toNat) φ0 H0 (rangeP n) [] where
  go := fun i φ h H p x s q e => by
    have hi : i < n.toNat := by
      have := (List.getElem?_eq_some_iff.mp e).1
      unfold rangeP at this
      rw [List.length_map, List.length_range] at this
      exact this
    refine ⟨hi, fun v H' y => ?_⟩
    obtain ⟨y1, y2⟩ := y
    subst y1 y2
    have ep : p = .int (i : Nat) := by
      unfold rangeP at e
      rw [List.getElem?_map, List.getElem?_range hi] at e
      exact (Option.some.inj e).symm
    subst ep
    refine ⟨Ext.refl _ _, s, ?_⟩
    show V.int (0 + (i : Int)) = V.int (i : Int)
    rw [Int.zero_add]
  stop := fun i φ h H x s q e => by
    unfold rangeP at e
    rw [List.length_map, List.length_range] at e
    exact e
theorem zipP_get : ∀ {l k : List PV} {i : Nat} {p : PV}, (zipP l k)[i]? = some p → ∃ a b, l[i]? = some a ∧ k[i]? = some b ∧ p = .tup [a, b]
  | [], _, _, _, e => by simp [zipP] at e
  | _ :: _, [], _, _, e => by simp [zipP] at e
  | a :: l, b :: k, 0, p, e => by
    simp [zipP] at e
    exact ⟨a, b, rfl, rfl, e.symm⟩
  | a :: l, b :: k, i + 1, p, e => by
    simp [zipP] at e
    simpa using zipP_get e
theorem zipP_len : ∀ {l k : List PV} {i : Nat}, (zipP l k).length ≤ i → l.length ≤ i ∨ k.length ≤ i
  | [], _, i, _ => .inl (Nat.zero_le _)
  | _ :: _, [], i, _ => .inr (Nat.zero_le _)
  | a :: l, b :: k, i, e => by
    have e' : (zipP l k).length + 1 ≤ i := e
    obtain ⟨j, rfl⟩ : ∃ j, i = j + 1 := ⟨i - 1, by omega⟩
    rcases zipP_len (l := l) (k := k) (i := j) (by omega) with z | z
    · exact .inl (by rw [List.length_cons]; omega)
    · exact .inr (by rw [List.length_cons]; omega)
theorem walk_zipL {a b : Addr} {l k : List PV} {kp : Keep} (st : ∀ φ h H, Kp φ0 φ H0 H → Sim K φ h H → zbs kp h → ∃ vs ws, SqL K.K H a vs ∧ RVs K φ H l vs ∧ SqL K.K H b ws ∧ RVs K φ H k ws) : WalkOk K (Itz K.K a b) φ0 H0 (zipP l k) kp where
  go := fun i φ h H p x s q e => by
    obtain ⟨vs, ws, hs, r, hs2, r2⟩ := st φ h H x s q
    obtain ⟨pa, pb, ea, eb, rfl⟩ := zipP_get e
    obtain ⟨v, e1, rv⟩ := r.get ea
    obtain ⟨w, e2, rw'⟩ := r2.get eb
    refine ⟨⟨vs, ws, v, w, hs, hs2, e1, e2⟩, fun u H' y => ?_⟩
    obtain ⟨T, v', w', y1, nT, y2, y3, y4⟩ := y
    subst y1 y2
    have z1 := y3 vs hs
    have z2 := y4 ws hs2
    rw [e1] at z1
    rw [e2] at z2
    cases z1
    cases z2
    exact ⟨Ext.new nT, s.new nT, T, [v, w], rfl, .inl ⟨.inl upd_same, s.out nT⟩, (RVs.cons rv (RVs.cons rw' RVs.nil)).mono (Ext.new nT)⟩
  stop := fun i φ h H x s q e => by
    obtain ⟨vs, ws, hs, r, hs2, r2⟩ := st φ h H x s q
    refine ⟨vs, ws, hs, hs2, ?_⟩
    rw [← r.length, ← r2.length]
    exact zipP_len e
theorem walk_zipT {a b : Addr} {l k : List PV} {kp : Keep} (st : ∀ φ h H, Kp φ0 φ H0 H → Sim K φ h H → zbs kp h → ∃ vs ws, SqT K.K H a vs ∧ RVs K φ H l vs ∧ SqT K.K H b ws ∧ RVs K φ H k ws) : WalkOk K (RZ.ItzT K.K a b) φ0 H0 (zipP l k) kp where
  go := fun i φ h H p x s q e => by
    obtain ⟨vs, ws, hs, r, hs2, r2⟩ := st φ h H x s q
    obtain ⟨pa, pb, ea, eb, rfl⟩ := zipP_get e
    obtain ⟨v, e1, rv⟩ := r.get ea
    obtain ⟨w, e2, rw'⟩ := r2.get eb
    refine ⟨⟨vs, ws, v, w, hs, hs2, e1, e2⟩, fun u H' y => ?_⟩
    obtain ⟨T, v', w', y1, nT, y2, y3, y4⟩ := y
    subst y1 y2
    have z1 := y3 vs hs
    have z2 := y4 ws hs2
    rw [e1] at z1
    rw [e2] at z2
    cases z1
    cases z2
    exact ⟨Ext.new nT, s.new nT, T, [v, w], rfl, .inl ⟨.inl upd_same, s.out nT⟩, (RVs.cons rv (RVs.cons rw' RVs.nil)).mono (Ext.new nT)⟩
  stop := fun i φ h H x s q e => by
    obtain ⟨vs, ws, hs, r, hs2, r2⟩ := st φ h H x s q
    refine ⟨vs, ws, hs, hs2, ?_⟩
    rw [← r.length, ← r2.length]
    exact zipP_len e
end
theorem Sim.stays_at {K : ZZ} {φ : List Addr} {h : PH} {H : Hp} {n : Nat} {l : List PV} {kp : Keep} {a : Addr} (s : Sim K φ h H) (q : zbs kp h) (m : (n, l) ∈ kp) (e : φ[n]? = some a) : ∃ vs, SqL K.K H a vs ∧ RVs K φ H l vs := by
  obtain ⟨a', vs, e1, e2, r⟩ := s.lst (q (n, l) m)
  rw [e] at e1
  cases e1
  exact ⟨vs, SqL.of e2, r⟩
section
variable {X : Cx} {W : WX} {C : Calls} {a b c tg : Expr} {as : List Expr} {pos p : Pos} {ea eb ec : E} {ees : List E} {x : Str} {k : Nat}
theorem ji_seq (ha : JE X W C a ea) : JI X W C tg a .seq [ea] := pi_imp (pi_seqS ha) fun σ H Q ⟨ρ, φ, h, sm, re, o⟩ => by
  have o' : Out (zOf X) X.mg (relW (zOf X)) φ H (atS W σ) Q ((evG C ea false ρ h).bind fun x h1 => ofO (walkF .seq [x] h1) h1) := by
    have e : evI C .seq [ea] ρ h = (evG C ea false ρ h).bind fun x h1 => ofO (walkF .seq [x] h1) h1 := by
      show (((evG C ea false ρ h).bind fun x h1 => ((R.ok [] h1 : R (List PV)).bind fun l h2 => R.ok (x :: l) h2)).bind fun l h1 => ofO (walkF .seq l h1) h1) = _
      cases evG C ea false ρ h <;> rfl
    rw [← e]
    exact o
  refine ⟨ρ, φ, h, sm, re, (Out.bind (rel2 := RV (zOf X)) o').imp fun x H1 ⟨φ1, va, h1, x1, s1, r1, o1⟩ => ?_⟩
  obtain ⟨w, e, q⟩ := o1.some
  have e' : walkSeq [va] h1 = some w := e
  cases va with
  | cl l =>
    cases e'
    obtain ⟨ad, vs, hx, hq, r⟩ := r1
    exact .inl ⟨ad, hx, .inl ⟨⟨vs, hq.sq⟩, q φ1 H1 _ (Ext.refl _ _) s1 (walk_list fun φ h H x s _ => ⟨vs, (hq.monoK x).sq, r.monoK x⟩)⟩⟩
  | ref n =>
    simp only [walkSeq] at e'
    split at e'
    · rename_i l e3
      cases e'
      obtain ⟨ad, hx, e4⟩ := r1
      obtain ⟨a', vs, e5, e6, r⟩ := s1.lst e3
      rw [e4] at e5
      cases e5
      exact .inl ⟨ad, hx, .inl ⟨⟨vs, SqL.of e6⟩, q φ1 H1 _ (Ext.refl _ _) s1 (walk_list fun φ h H x s st => s.stays_at st List.mem_cons_self (x.pl _ _ e4))⟩⟩
    · cases e'
  | str z =>
    cases e'
    exact .inr ⟨z, r1, q φ1 H1 _ (Ext.refl _ _) s1 (walk_str z)⟩
  | tup l =>
    cases e'
    obtain ⟨ad, vs, hx, hq, r⟩ := r1
    exact .inl ⟨ad, hx, .inr ⟨⟨vs, hq.sq⟩, q φ1 H1 _ (Ext.refl _ _) s1 (walk_tup fun φ h H x s _ => ⟨vs, (hq.monoK x).sq, r.monoK x⟩)⟩⟩
  | _ => cases e'
theorem ji_range (hm : X.mg "range" = none) (ha : JA X W C [a] [ea]) (hg : Gl X "range" := by rfl) (hs : starEach [a] X.env = [(false, eval a X.env)] := by rfl) : JI X W C tg (.Call (.Name "range" p) [a] [] pos) .range [ea] :=
  pi_imp (pi_range1 hg hm ha hs) fun σ H Q ⟨ρ, φ, h, sm, re, o⟩ => by
    refine ⟨ρ, φ, h, sm, re, (Out.bind (rel2 := RVs (zOf X)) (show Out (zOf X) X.mg (relW (zOf X)) φ H (atS W σ) Q ((evGs C [ea] ρ h).bind _) from o)).imp fun vs H1 ⟨φ1, l, h1, x1, s1, r1, o1⟩ => ?_⟩
    obtain ⟨w, e, q⟩ := o1.some
    change walkRange l h1 = some w at e
    unfold walkRange at e
    split at e
    · rename_i n
      split at e
      · rename_i hn
        cases e
        obtain ⟨v, e1, rv⟩ := r1.one
        exact ⟨n, by rw [e1, show v = .int n from rv], hn.2, hn.1, q φ1 H1 _ (Ext.refl _ _) s1 (walk_range n)⟩
      · cases e
    · cases e
theorem ji_zip {elts : List Expr} {kk : Nat} {tpos : Pos} (hm : X.mg "zip" = none) (ha : JA X W C [a, b] [ea, eb]) (hg : Gl X "zip" := by rfl) (hs : starEach [a, b] X.env = (false, eval a X.env) :: starEach [b] X.env := by rfl) (hpl : (backTo pos (starEach [b] X.env)).any (·.1) = false := by rfl) :
    JI X W C (.Tuple elts kk tpos) (.Call (.Name "zip" p) [a, b] [] pos) .zip [ea, eb] :=
  pi_imp (RZ.pi_zipA hg hm ha hs hpl) fun σ H Q ⟨ρ, φ, h, sm, re, o⟩ => by
    refine ⟨ρ, φ, h, sm, re, (Out.bind (rel2 := RVs (zOf X)) (show Out (zOf X) X.mg (relW (zOf X)) φ H (atS W σ) Q ((evGs C [ea, eb] ρ h).bind _) from o)).imp fun vs H1 ⟨φ1, l, h1, x1, s1, r1, o1⟩ => ?_⟩
    obtain ⟨w, e, q⟩ := o1.some
    change walkZip l h1 = some w at e
    unfold walkZip at e
    split at e
    · rename_i l1 l2
      cases e
      obtain ⟨v, w, e1, rv, rw'⟩ := r1.two
      obtain ⟨ad, vs1, hx, hq, r⟩ := rv
      obtain ⟨bd, vs2, hx2, hq2, r2⟩ := rw'
      exact ⟨ad, bd, vs1, vs2, by rw [e1, hx, hx2], .inr ⟨hq.sq, hq2.sq, q φ1 H1 _ (Ext.refl _ _) s1 (walk_zipT fun φ h H x s _ => ⟨vs1, vs2, (hq.monoK x).sq, r.monoK x, (hq2.monoK x).sq, r2.monoK x⟩)⟩⟩
    · rename_i m n
      split at e
      · rename_i l1 l2 e3 e4
        cases e
        obtain ⟨v, w, e1, rv, rw'⟩ := r1.two
        obtain ⟨ad, hx, e5⟩ := rv
        obtain ⟨bd, hx2, e6⟩ := rw'
        obtain ⟨a', vs1, e7, e8, r⟩ := s1.lst e3
        obtain ⟨b', vs2, e9, e10, r2⟩ := s1.lst e4
        rw [e5] at e7
        cases e7
        rw [e6] at e9
        cases e9
        refine ⟨ad, bd, vs1, vs2, by rw [e1, hx, hx2], .inl ⟨SqL.of e8, SqL.of e10, q φ1 H1 _ (Ext.refl _ _) s1 (walk_zipL fun φ h H x s st => ?_)⟩⟩
        obtain ⟨ws1, g1, g2⟩ := s.stays_at st List.mem_cons_self (x.pl _ _ e5)
        obtain ⟨ws2, g3, g4⟩ := s.stays_at st (List.mem_cons_of_mem _ List.mem_cons_self) (x.pl _ _ e6)
        exact ⟨ws1, ws2, g1, g2, g3, g4⟩
      · cases e
    · cases e
end
def gNs : List Nat → TGs
  | [] => gNil
  | i :: is => gCons (gName i) (gNs is)
/-- (a, .., *b) = a tuple: the rest's list is not tracked -/
def gStar (K : PySem.W.Frag) (n : Nat) (t : TGs) : TG := fun v σ H Q => ∃ a xs, v = .ref a ∧ SqT K H a xs ∧ n ≤ xs.length + 1 ∧ 0 < n ∧ xs.length ≤ 1000 ∧ ∀ D, t (xs.take (n - 1) ++ [.ref D]) σ H Q
def gT (K : PySem.W.Frag) (is : List Nat) (one : TgK) : TG := match one, is with
  | .one, [i] => gName i
  | .one, _ => fun _ _ _ _ => False
  | .tup, is => gTup K is.length (gNs is)
  | .star, is => gStar K is.length (gNs is)
  | .nest, [] => fun _ _ _ _ => False
  | .nest, i :: is => gTup K 2 (gCons (gName i) (gCons (gTup K is.length (gNs is)) gNil))
theorem gNs_post : ∀ {is : List Nat} {vs : List V} {σ : St} {H : Hp} {Q : St → Hp → Prop}, gNs is vs σ H Q → gNs is vs σ H (fun σ' H' => ([] : List V) = [] ∧ Q σ' H')
  | [], _, _, _, _, h => ⟨h.1, rfl, h.2⟩
  | _ :: is, _, _, _, _, ⟨v, r, e, h⟩ => ⟨v, r, e, gNs_post (is := is) h⟩
def setV : List Nat → List V → St → St
  | i :: is, v :: vs, σ => setV is vs (σ.set i (some v))
  | _, _, σ => σ
theorem gNs_ok {H : Hp} {Q : St → Hp → Prop} : ∀ {is : List Nat} {vs : List V} {σ : St}, is.length = vs.length → Q (setV is vs σ) H → gNs is vs σ H Q
  | [], [], σ, _, q => ⟨rfl, q⟩
  | i :: is, v :: vs, σ, e, q => ⟨v, vs, rfl, gNs_ok (is := is) (by simpa using e) q⟩
  | [], _ :: _, _, e, _ => by simp at e
  | _ :: _, [], _, e, _ => by simp at e
theorem setAll_ok {K : ZZ} {φ : List Addr} {H : Hp} : ∀ {is : List Nat} {l : List PV} {vs : List V} {ρ ρ' : Env} {σ : St}, RE K φ H ρ σ → RVs K φ H l vs → setAll ρ is l = some ρ' → RE K φ H ρ' (setV is vs σ) ∧ is.length = vs.length
  | [], [], vs, ρ, ρ', σ, h, r, e => by
    cases e
    have : vs = [] := r
    subst this
    exact ⟨h, rfl⟩
  | i :: is, p :: l, vs, ρ, ρ', σ, h, r, e => by
    obtain ⟨v, t, e1, q, s⟩ := r
    subst e1
    obtain ⟨h1, h3⟩ := setAll_ok (is := is) (h.set i q) s e
    exact ⟨h1, by rw [List.length_cons, List.length_cons, h3]⟩
  | [], _ :: _, _, _, _, _, _, _, e => by cases e
  | _ :: _, [], _, _, _, _, _, _, e => by cases e
/-- which names were stored -/
def wipesOk (is : List Nat) (σ σ' : St) : Prop := ∀ vs : List Nat, (∀ i ∈ is, i ∈ vs) → L2.wipe σ' vs = L2.wipe σ vs
theorem wipe_set {σ : St} {i : Nat} {v : Option V} : ∀ {vs : List Nat}, i ∈ vs → L2.wipe (σ.set i v) vs = L2.wipe σ vs
  | [], h => by simp at h
  | j :: vs, h => by
    show (L2.wipe (σ.set i v) vs).set j none = (L2.wipe σ vs).set j none
    by_cases e : i ∈ vs
    · rw [wipe_set e]
    · have ij : i = j := by
        rcases List.mem_cons.mp h with z | z
        · exact z
        · exact absurd z e
      subst ij
      rw [wipe_out' e]
      rw [List.set_set]
where
  wipe_out' {σ : St} {i : Nat} {v : Option V} : ∀ {vs : List Nat}, i ∉ vs → L2.wipe (σ.set i v) vs = (L2.wipe σ vs).set i v
    | [], _ => rfl
    | j :: vs, h => by
      show (L2.wipe (σ.set i v) vs).set j none = ((L2.wipe σ vs).set j none).set i v
      rw [wipe_out' (fun z => h (List.mem_cons_of_mem _ z)), List.set_comm _ _ (fun z => h (by rw [z]; exact List.mem_cons_self))]
theorem wipe_setV {σ : St} {ws : List Nat} : ∀ {is : List Nat} {vs : List V} {σ : St}, (∀ i ∈ is, i ∈ ws) → L2.wipe (setV is vs σ) ws = L2.wipe σ ws
  | [], _, σ, _ => rfl
  | _ :: _, [], σ, _ => rfl
  | i :: is, v :: vs, σ, h => by
    show L2.wipe (setV is vs (σ.set i (some v))) ws = _
    rw [wipe_setV (σ := σ) (is := is) (fun j hj => h j (List.mem_cons_of_mem _ hj)), wipe_set (h i List.mem_cons_self)]
theorem wipe_wipe {σ : St} : ∀ {vs : List Nat}, ∀ ws : List Nat, (∀ i ∈ vs, i ∈ ws) → L2.wipe (L2.wipe σ vs) ws = L2.wipe σ ws
  | [], ws, _ => rfl
  | j :: vs, ws, h => by
    show L2.wipe ((L2.wipe σ vs).set j none) ws = _
    rw [wipe_set (h j List.mem_cons_self)]
    exact wipe_wipe ws fun i hi => h i (List.mem_cons_of_mem _ hi)
theorem gT_ok {K : ZZ} {φ : List Addr} {H : Hp} {is : List Nat} {one : TgK} {p : PV} {v : V} {ρ ρ' : Env} {σ : St} {Q : St → Hp → Prop} (re : RE K φ H ρ σ) (r : RV K φ H p v) (e : setTg ρ is one p = some ρ')
    (q : ∀ σ', RE K φ H ρ' σ' → wipesOk is σ σ' → Q σ' H) : gT K.K is one v σ H Q := by
  unfold setTg at e
  split at e
  · rename_i i
    cases e
    exact q _ (re.set i r) fun vs h => wipe_set (h i List.mem_cons_self)
  · rename_i l
    obtain ⟨ad, vs, hx, hq, r'⟩ := r
    obtain ⟨h1, h2⟩ := setAll_ok re r' e
    exact ⟨ad, vs, hx, hq.sq, h2.symm, gNs_ok h2 (q _ h1 fun ws h => wipe_setV (σ := σ) h)⟩
  · rename_i i is a l
    obtain ⟨ad, vs, hx, hq, r'⟩ := r
    obtain ⟨v1, v2, rfl, q1, q2⟩ := r'.two
    obtain ⟨ad2, vs2, hx2, hq2, r2⟩ := q2
    obtain ⟨h1, h2⟩ := setAll_ok (re.set i q1) r2 e
    refine ⟨ad, _, hx, hq.sq, rfl, v1, _, rfl, v2, [], rfl, ad2, vs2, hx2, hq2.sq, h2.symm, ?_⟩
    refine gNs_post (gNs_ok h2 (q _ h1 fun ws h => ?_))
    rw [wipe_setV (σ := σ) (fun j hj => h j (List.mem_cons_of_mem _ hj)), wipe_set (h i List.mem_cons_self)]
  · rename_i l
    split at e
    · rename_i hn
      split at e
      · rename_i j hj
        obtain ⟨ρ1, e1, e2⟩ := Option.map_eq_some_iff.mp e
        subst e2
        obtain ⟨ad, vs, hx, hq, r'⟩ := r
        obtain ⟨h1, h2⟩ := setAll_ok re (r'.take (is.length - 1)) e1
        have eis : is = is.dropLast ++ [j] := by
          obtain ⟨ne, el⟩ := List.getLast?_eq_some_iff.mp hj
          rw [el]
          simp
        have lis : is.length = is.dropLast.length + 1 := by
          have := congrArg List.length eis
          rw [List.length_append] at this
          simpa using this
        have lv := r'.length
        refine ⟨ad, vs, hx, hq.sq, by omega, by omega, by omega, fun D => ?_⟩
        have key : ∀ {as : List Nat} {ws : List V} {σ : St}, as.length = ws.length → setV (as ++ [j]) (ws ++ [.ref D]) σ = (setV as ws σ).set j (some (.ref D)) := by
          intro as
          induction as with
          | nil =>
            intro ws σ e
            match ws, e with
            | [], _ => rfl
          | cons a as ih =>
            intro ws σ e
            match ws, e with
            | w :: ws, e => exact ih (by simpa using e)
        have gg : gNs (is.dropLast ++ [j]) (vs.take (is.length - 1) ++ [.ref D]) σ H Q := by
          refine gNs_ok (by rw [List.length_append, List.length_append, h2]; rfl) ?_
          rw [key h2]
          refine q _ ?_ fun ws hw => ?_
          · exact RE.unsetA j h1
          · rw [wipe_set (hw j (by rw [eis]; simp)), wipe_setV (σ := σ) (fun i hi => hw i (by rw [eis]; exact List.mem_append_left _ hi))]
        rw [← eis] at gg
        exact gg
      · cases e
    · cases e
  · cases e
end Sb
namespace Sb
open PySem PySem.Spec L2
/-- nothing is let out -/
abbrev W0 : WX := fun _ _ _ _ => False
theorem Out.calm_bind {K : ZZ} {mg : Str → Option Value} {α β γ δ : Type} {rel : List Addr → Hp → α → β → Prop} {rel2 : List Addr → Hp → γ → δ → Prop} {φ0 φ : List Addr} {H0 H : Hp} {W W' : XK} {Q : β → Hp → Prop} {m : R γ} {f : γ → PH → R α} (h : Out K mg rel φ0 H0 W Q (m.calm.bind f)) :
    Out K mg rel2 φ H W' (fun b H' => ∃ φ' a h1, Ext φ φ' H H' ∧ Sim K φ' h1 H' ∧ rel2 φ' H' a b ∧ Out K mg rel φ0 H0 W Q (f a h1)) m := by
  cases m with
  | ok a h1 => exact fun φ' H' b x s r => ⟨φ', a, h1, x, s, r, h⟩
  | ex x h1 => exact (show False from h).elim
  | no => exact h
def tCond (K : ZZ) (mg : Str → Option Value) (C : Calls) : Option E → TT
  | none => tYes
  | some e => tT K mg W0 C e
theorem cond_ok {K : ZZ} {mg : Str → Option Value} {C : Calls} {cond : Option E} {σ : St} {H : Hp} {ρ : Env} {φ : List Addr} {h : PH} {Q : Bool → Hp → Prop} (sm : Sim K φ h H) (re : RE K φ H ρ σ) (o : Out K mg RI φ H (fun _ _ _ => False) Q (evGc C cond ρ h)) : tCond K mg C cond σ H Q := by
  cases cond with
  | none => exact (show Out K mg RI φ H (fun _ _ _ => False) Q (.ok true h) from o).at sm rfl
  | some e => exact ⟨ρ, φ, h, sm, re, o⟩
theorem R.bind_bind {α β γ : Type} (m : R α) (f : α → PH → R β) (g : β → PH → R γ) : (m.bind f).bind g = m.bind fun a h => (f a h).bind g := by
  cases m <;> rfl
/-- the loop of a comprehension, as the layer reads it -/
theorem comp_red {K : ZZ} {mg : Str → Option Value} {W : WX} {C : Calls} {elt : E} {is : List Nat} {one : TgK} {k : ITK} {its : List E} {cond : Option E} {own : List Nat} (his : ∀ i ∈ is, i ∈ own) {σ : St} {H : Hp} {Q : VK} (t : tE K mg W C (.comp elt is one k its cond own) σ H Q) :
    tLc (tI K mg W C k its) (gT K.K is one) (tCond K mg C cond) (tE K mg W0 C elt) own σ H Q := by
  obtain ⟨ρ, φ, h, sm, re, o⟩ := t
  have o' : Out K mg (RV K) φ H (atS W σ) Q ((evI C k its ρ h).bind fun w h1 => (za8 w.2 (fun x => setTg (wipeP ρ own) is one x) (fun ρ1 h2 => (evGc C cond ρ1 h2).calm) (fun ρ1 h2 => (evG C elt false ρ1 h2).calm) w.1 [] h1).bind fun l h2 => alloc l h2) := by
    have e : evG C (.comp elt is one k its cond own) false ρ h = (evI C k its ρ h).bind fun w h1 => (za8 w.2 (fun x => setTg (wipeP ρ own) is one x) (fun ρ1 h2 => (evGc C cond ρ1 h2).calm) (fun ρ1 h2 => (evG C elt false ρ1 h2).calm) w.1 [] h1).bind fun l h2 => alloc l h2 := by
      unfold evI
      rw [R.bind_bind]
      show ((evGs C its ρ h).bind _) = _
      congr 1
      funext l h1
      cases walkF k l h1 with
      | none => rfl
      | some w => rfl
    rw [← e]
    exact o
  refine ⟨ρ, φ, h, sm, re, (Out.bind (rel2 := relW K) o').imp fun J H1 ⟨φ1, w, h1, x1, s1, wk, o1⟩ => ?_⟩
  obtain ⟨items, kp⟩ := w
  intro D hD
  have wk : WalkOk K J φ1 H1 items kp := wk
  have re1 := (re.mono x1).wipe own
  refine ⟨fun i m H2 => ∃ φ2 h2 acc ws, m = (items.drop i).length ∧ Ext φ1 φ2 H1 H2 ∧ Sim K φ2 h2 H2 ∧ D ∉ φ2 ∧ H2 D = some (.lst ws) ∧ RVs K φ2 H2 acc ws ∧
    Out K mg (RV K) φ1 H1 (atS W σ) Q ((za8 kp (fun x => setTg (wipeP ρ own) is one x) (fun ρ1 h2 => (evGc C cond ρ1 h2).calm) (fun ρ1 h2 => (evG C elt false ρ1 h2).calm) (items.drop i) acc h2).bind fun l h2 => alloc l h2),
    ⟨items.length, φ1, h1, [], [], rfl, Ext.new hD, s1.new hD, s1.out hD, upd_same, rfl, o1⟩, ?_⟩
  rintro i m H2 ⟨φ2, h2, acc, ws, hm, x2, s2, nD, hDl, ra, o2⟩
  cases e : items.drop i with
  | nil =>
    rw [e] at o2
    unfold za8 at o2
    split at o2
    · rename_i hs
      refine .inl ⟨wk.stop i φ2 h2 H2 x2.kp s2 hs (List.drop_eq_nil_iff.mp e), ?_⟩
      have o3 : Out K mg (RV K) φ1 H1 (atS W σ) Q (alloc acc h2) := o2
      unfold alloc at o3
      split at o3
      · refine o3 (φ2 ++ [D]) H2 (.ref D) (x2.adopt hD) (s2.adopt hDl nD ra) ⟨D, rfl, ?_⟩
        rw [← s2.len, List.getElem?_append_right (Nat.le_refl _), Nat.sub_self]
        rfl
      · exact o3.elim
    · exact (show False from o2).elim
  | cons p rest =>
    have ei : items[i]? = some p := by
      have := congrArg (·[0]?) e
      simpa using this
    have er : items.drop (i + 1) = rest := by
      rw [← List.drop_drop, e]
      rfl
    rw [e] at o2
    unfold za8 at o2
    split at o2
    · rename_i hs
      obtain ⟨hgo, hy⟩ := wk.go i φ2 h2 H2 p x2.kp s2 hs ei
      refine .inr ⟨hgo, fun H3 => ∃ φ2 h2 acc ws, Ext φ1 φ2 H1 H3 ∧ Sim K φ2 h2 H3 ∧ D ∉ φ2 ∧ H3 D = some (.lst ws) ∧ RVs K φ2 H3 acc ws ∧
        Out K mg (RV K) φ1 H1 (atS W σ) Q ((za8 kp (fun x => setTg (wipeP ρ own) is one x) (fun ρ1 h2 => (evGc C cond ρ1 h2).calm) (fun ρ1 h2 => (evG C elt false ρ1 h2).calm) rest acc h2).bind fun l h2 => alloc l h2), fun H3 z => ?_, fun v H3 y => ?_⟩
      · obtain ⟨φ3, h3, acc3, ws3, z1, z2, z3, z4, z5, z6⟩ := z
        refine ⟨rest.length, by rw [hm, e, List.length_cons]; omega, φ3, h3, acc3, ws3, by rw [er], z1, z2, z3, z4, z5, ?_⟩
        rw [er]
        exact z6
      · obtain ⟨ex, sx, rx⟩ := hy v H3 y
        cases eb : setTg (wipeP ρ own) is one p with
        | none => simp only [eb] at o2; exact (show False from o2).elim
        | some ρ1 =>
          simp only [eb] at o2
          have xx := x2.trans ex
          have hD3 : H3 D = some (.lst ws) := ex.keep D _ hDl nD (fun ps z => by cases z)
          refine gT_ok (re1.mono xx) rx eb fun σ2 re2 wp => ⟨by rw [wp own his, wipe_wipe own fun _ z => z], ?_⟩
          have o3 := o2
          rw [R.bind_bind] at o3
          refine cond_ok sx re2 ((Out.calm_bind (rel2 := RI) (W' := fun _ _ _ => False) o3).imp fun b H4 ⟨φ4, b1, h4, x4, s4, r4, o4⟩ => ?_)
          have r4' : b1 = b := r4
          subst r4'
          have hD4 : H4 D = some (.lst ws) := x4.keep D _ hD3 nD (fun ps z => by cases z)
          have nD4 : D ∉ φ4 := fun z => by
            obtain ⟨ps, e⟩ := x4.fresh D z nD _ hD3
            cases e
          cases b1 with
          | false =>
            simp only [Bool.false_eq_true, if_false] at o4 ⊢
            exact ⟨φ4, h4, acc, ws, xx.trans x4, s4, nD4, hD4, (ra.mono ex).mono x4, o4⟩
          | true =>
            simp only [if_true] at o4 ⊢
            rw [R.bind_bind] at o4
            refine ⟨ρ1, φ4, h4, s4, re2.mono x4, (Out.calm_bind (rel2 := RV K) (W' := fun _ _ _ => False) o4).imp fun y H5 ⟨φ5, v5, h5, x5, s5, r5, o5⟩ => ?_⟩
            have hD5 : H5 D = some (.lst ws) := x5.keep D _ hD4 nD4 (fun ps z => by cases z)
            have nD5 : D ∉ φ5 := fun z => by
              obtain ⟨ps, e⟩ := x5.fresh D z nD4 _ hD4
              cases e
            have ra5 := ((ra.mono ex).mono x4).mono x5
            split at o5
            · rename_i hl
              refine ⟨ws, hD5, by rw [← ra.length]; exact line_lt hl, φ5, h5, acc ++ [v5], ws ++ [y], ((xx.trans x4).trans x5).aside hD, s5.aside hD5 nD5, nD5, upd_same, ?_, o5⟩
              exact (ra5.append (RVs.cons r5 RVs.nil)).monoK (Kp.aside hD5)
            · exact (show False from o5).elim
    · exact (show False from o2).elim
section
variable {X : Cx} {W : WX} {C : Calls}
theorem je_comp {elt tg iter : Expr} {ifs : List Expr} {scope : Scope} {own : List (Str × Nat)} {pos : Pos} {ee : E} {is : List Nat} {one : TgK} {k : ITK} {its : List E} {cond : Option E} (hc : X.calm = true) (hN : X.N.Nodup) (hi : JI X W C tg iter k its) (ok : BlkOk X.N X.env.scope scope own)
    (hg : ∀ (s : Shared) (H : Hp) (C : Addr) (cl : List (Str × Addr)) (fp : List Addr), PG (X.blk s H scope (compEnvC scope cl C X.env) fp) tg (gT X.K is one)) (ht : ∀ (s : Shared) (H : Hp) (C' : Addr) (cl : List (Str × Addr)) (fp : List Addr), PTs (X.blk s H scope (compEnvC scope cl C' X.env) fp) ifs (tCond (zOf (X.blk s H scope (compEnvC scope cl C' X.env) fp)) X.mg C cond))
    (he : ∀ (s : Shared) (H : Hp) (C' : Addr) (cl : List (Str × Addr)) (fp : List Addr), JE (X.blk s H scope (compEnvC scope cl C' X.env) fp) W0 C elt ee) (his : ∀ i ∈ is, i ∈ own.map (·.2) := by decide) (hs : ∀ x, foldedSetIterable iter X.env x = pure x := by intro _; rfl) :
    JE X W C (.ListComp elt [⟨tg, iter, ifs, 0⟩] scope pos) (.comp ee is one k its cond (own.map (·.2))) := by
  have hz : zOf X = ⟨X.K, [], X.prog, X.w⟩ := z_calm hc
  have hzb : ∀ (s : Shared) (H : Hp) (cenv : PySem.Env) (fp : List Addr), zOf (X.blk s H scope cenv fp) = ⟨X.K, [], X.prog, X.w⟩ := fun s H cenv fp => z_calm (X := X.blk s H scope cenv fp) hc
  have ht' : ∀ (s : Shared) (H : Hp) (C' : Addr) (cl : List (Str × Addr)) (fp : List Addr), PTs (X.blk s H scope (compEnvC scope cl C' X.env) fp) ifs (tCond ⟨X.K, [], X.prog, X.w⟩ X.mg C cond) := fun s H C' cl fp => by
    have z := ht s H C' cl fp
    rw [hzb] at z
    exact z
  have he' : ∀ (s : Shared) (H : Hp) (C' : Addr) (cl : List (Str × Addr)) (fp : List Addr), PE (X.blk s H scope (compEnvC scope cl C' X.env) fp) elt (tE ⟨X.K, [], X.prog, X.w⟩ X.mg W0 C ee) := fun s H C' cl fp => by
    have z := he s H C' cl fp
    unfold JE at z
    rw [hzb] at z
    exact z
  exact pe_imp (pe_lc (te := tE ⟨X.K, [], X.prog, X.w⟩ X.mg W0 C ee) hc hN hi ok hg ht' he' hs) fun σ H Q t => by
    have t' := comp_red his t
    rw [← hz]
    exact t'
end
def OutS (K : ZZ) (mg : Str → Option Value) (φ : List Addr) (H : Hp) (W : WX) (D : Ends) : RS → Prop
  | .nx ρ h => ∀ φ' H' σ', Ext φ φ' H H' → Sim K φ' h H' → RE K φ' H' ρ σ' → D.nx σ' H'
  | .rt v h => ∀ φ' H' x, Ext φ φ' H H' → Sim K φ' h H' → RV K φ' H' v x → D.rt x H'
  | .bk ρ h => ∀ φ' H' σ', Ext φ φ' H H' → Sim K φ' h H' → RE K φ' H' ρ σ' → D.bk σ' H'
  | .ct ρ h => ∀ φ' H' σ', Ext φ φ' H H' → Sim K φ' h H' → RE K φ' H' ρ σ' → D.ct σ' H'
  | .ex x ρ h => ∀ φ' H' σ' cls d, Ext φ φ' H H' → Sim K φ' h H' → RE K φ' H' ρ σ' → RX K mg φ' H' x cls d → W cls d σ' H'
  | .no => False
section
variable {K : ZZ} {mg : Str → Option Value} {φ φ' : List Addr} {H H' : Hp} {W : WX} {D : Ends}
theorem OutS.mono (x : Ext φ φ' H H') : ∀ {m : RS}, OutS K mg φ H W D m → OutS K mg φ' H' W D m
  | .nx _ _, h => fun φ2 H2 b y s r => h φ2 H2 b (x.trans y) s r
  | .rt _ _, h => fun φ2 H2 b y s r => h φ2 H2 b (x.trans y) s r
  | .bk _ _, h => fun φ2 H2 b y s r => h φ2 H2 b (x.trans y) s r
  | .ct _ _, h => fun φ2 H2 b y s r => h φ2 H2 b (x.trans y) s r
  | .ex _ _ _, h => fun φ2 H2 b c d y s r => h φ2 H2 b c d (x.trans y) s r
  | .no, h => h
/-- an expression, then the rest of the statement -/
theorem OutS.st {α β : Type} {rel : List Addr → Hp → α → β → Prop} {m : R α} {f : α → PH → RS} {ρ : Env} {σ : St} (re : RE K φ H ρ σ) (h : OutS K mg φ H W D (m.st ρ f)) :
    Out K mg rel φ H (atS W σ) (fun b H' => ∃ φ' a h1, Ext φ φ' H H' ∧ Sim K φ' h1 H' ∧ rel φ' H' a b ∧ OutS K mg φ' H' W D (f a h1)) m := by
  cases m with
  | ok a h1 => exact fun φ' H' b x s r => ⟨φ', a, h1, x, s, r, h.mono x⟩
  | ex y h1 => exact fun φ' H' c d x s r => h φ' H' σ c d x s (re.mono x) r
  | no => exact h
theorem OutS.atN {ρ : Env} {h : PH} {σ : St} (o : OutS K mg φ H W D (.nx ρ h)) (s : Sim K φ h H) (re : RE K φ H ρ σ) : D.nx σ H := o φ H σ (Ext.refl _ _) s re
end
def tS (K : ZZ) (mg : Str → Option Value) (W : WX) (C : Calls) (s : S) : TS := fun D σ H => ∃ ρ φ h, Sim K φ h H ∧ RE K φ H ρ σ ∧ OutS K mg φ H W D (exS C s ρ h)
def tSs (K : ZZ) (mg : Str → Option Value) (W : WX) (C : Calls) (s : List S) : TS := fun D σ H => ∃ ρ φ h, Sim K φ h H ∧ RE K φ H ρ σ ∧ OutS K mg φ H W D (exSs C s ρ h)
abbrev JS (X : Cx) (W : WX) (C : Calls) (a : Stmt) (s : S) : Prop := PS X a (tS (zOf X) X.mg W C s)
abbrev JSs (X : Cx) (W : WX) (C : Calls) (a : List Stmt) (s : List S) : Prop := PSs X a (tSs (zOf X) X.mg W C s)
theorem ps_imp {X : Cx} {a : Stmt} {t t' : TS} (p : PS X a t) (f : ∀ D σ H, t' D σ H → t D σ H) : PS X a t' := ⟨fun pins s σ H D I h => p.run pins s σ H D I (f D σ H h)⟩
theorem pss_imp {X : Cx} {a : List Stmt} {t t' : TS} (p : PSs X a t) (f : ∀ D σ H, t' D σ H → t D σ H) : PSs X a t' := ⟨fun pins s σ H D I h => p.run pins s σ H D I (f D σ H h)⟩
section
variable {X : Cx} {W : WX} {C : Calls} {a b c : Expr} {st : Stmt} {sts rest : List Stmt} {pos : Pos} {ea eb ec : E} {s : S} {ss ss2 : List S}
theorem zag : JSs X W C [] [] := pss_imp pss_nil fun D σ H ⟨ρ, φ, h, sm, re, o⟩ => (show OutS (zOf X) X.mg φ H W D (.nx ρ h) from o).atN sm re
theorem zad (h1 : JS X W C st s) (h2 : JSs X W C rest ss) : JSs X W C (st :: rest) (s :: ss) := pss_imp (pss_cons h1 h2) fun D σ H ⟨ρ, φ, h, sm, re, o⟩ => by
  have o' : OutS (zOf X) X.mg φ H W D ((exS C s ρ h).seq fun ρ1 h1 => exSs C ss ρ1 h1) := o
  refine ⟨ρ, φ, h, sm, re, ?_⟩
  cases e : exS C s ρ h with
  | nx ρ1 h1 =>
    rw [e] at o'
    exact fun φ' H' σ' x s r => ⟨ρ1, φ', h1, s, r, OutS.mono x o'⟩
  | rt v h1 => rw [e] at o'; exact o'
  | bk ρ1 h1 => rw [e] at o'; exact o'
  | ct ρ1 h1 => rw [e] at o'; exact o'
  | ex x ρ1 h1 => rw [e] at o'; exact o'
  | no => rw [e] at o'; exact o'
theorem zao (ha : JE X W C a ea) : JS X W C (.Return (some a) pos) (.ret ea) := ps_imp (ps_ret ha) fun D σ H ⟨ρ, φ, h, sm, re, o⟩ =>
  ⟨ρ, φ, h, sm, re, (OutS.st (rel := RV (zOf X)) re (show OutS (zOf X) X.mg φ H W D ((evE C ea ρ h).st ρ fun v h1 => .rt v h1) from o)).imp fun x H1 ⟨φ1, v, h1, x1, s1, r1, o1⟩ => o1 φ1 H1 x (Ext.refl _ _) s1 r1⟩
theorem zbu (hc : JT X W C c ec) (ha : JSs X W C sts ss) (hb : JSs X W C rest ss2) : JS X W C (.If c sts rest pos) (.ifs ec ss ss2) := ps_imp (ps_if hc ha hb) fun D σ H ⟨ρ, φ, h, sm, re, o⟩ =>
  ⟨ρ, φ, h, sm, re, (OutS.st (rel := RI) re (show OutS (zOf X) X.mg φ H W D ((evT C ec ρ h).st ρ fun k h1 => if k then exSs C ss ρ h1 else exSs C ss2 ρ h1) from o)).imp fun k H1 ⟨φ1, k1, h1, x1, s1, r1, o1⟩ => by
    have r1' : k1 = k := r1
    subst r1'
    cases k1 with
    | true => exact ⟨ρ, φ1, h1, s1, re.mono x1, o1⟩
    | false => exact ⟨ρ, φ1, h1, s1, re.mono x1, o1⟩⟩
/-- name = e -/
theorem asg_red {te : TE} {i : Nat} {D : Ends} {σ : St} {H : Hp} (hte : ∀ Q, tE (zOf X) X.mg W C ea σ H Q → te σ H Q) (t : tS (zOf X) X.mg W C (.asg (.nm i) ea) D σ H) : tAsg te (gName i) D σ H := by
  obtain ⟨ρ, φ, h, sm, re, o⟩ := t
  exact hte _ ⟨ρ, φ, h, sm, re, (OutS.st (rel := RV (zOf X)) re (show OutS (zOf X) X.mg φ H W D ((evE C ea ρ h).st ρ fun v h1 => .nx (ρ.set i (some v)) h1) from o)).imp fun x H1 ⟨φ1, v, h1, x1, s1, r1, o1⟩ => o1.atN s1 ((re.mono x1).set i r1)⟩
theorem za2 {i : Nat} {x : Str} {pos' : Pos} (hN : X.N.Nodup) (ha : JE X W C a ea) (hi : X.N[i]? = some x := by rfl) (hx : Loc X.env.scope x := by first | exact .inl rfl | exact .inr rfl) (hs : swapsWith a (some (.Name x pos')) pos.line X.env = pure false := by rfl) (hf : X.fn x = true ∨ X.env.scope.names.lookup x = some .local := by first | exact .inl rfl | exact .inr rfl | assumption) :
    JS X W C (.Assign [.Name x pos'] a pos) (.asg (.nm i) ea) := ps_imp (ps_set hN hi hx ha hs hf) fun D σ H t => asg_red (fun _ z => z) t
/-- name = [.. for ..] on one line -/
theorem js_setC {i : Nat} {y : Str} {py : Pos} {elt tg iter : Expr} {ifs : List Expr} {scope : Scope} {own : List (Str × Nat)} {pos spos : Pos} {ee : E} {is : List Nat} {one : TgK} {k : ITK} {its : List E} {cond : Option E} (hc : X.calm = true) (hN : X.N.Nodup) (hi : JI X W C tg iter k its) (ok : BlkOk X.N X.env.scope scope own)
    (hg : ∀ (s : Shared) (H : Hp) (C : Addr) (cl : List (Str × Addr)) (fp : List Addr), PG (X.blk s H scope (compEnvC scope cl C X.env) fp) tg (gT X.K is one)) (ht : ∀ (s : Shared) (H : Hp) (C' : Addr) (cl : List (Str × Addr)) (fp : List Addr), PTs (X.blk s H scope (compEnvC scope cl C' X.env) fp) ifs (tCond (zOf (X.blk s H scope (compEnvC scope cl C' X.env) fp)) X.mg C cond))
    (he : ∀ (s : Shared) (H : Hp) (C' : Addr) (cl : List (Str × Addr)) (fp : List Addr), JE (X.blk s H scope (compEnvC scope cl C' X.env) fp) W0 C elt ee) (hy : X.N[i]? = some y := by rfl) (hyl : X.env.scope.names.lookup y = some .local := by rfl)
    (hsw : swapsWith (.ListComp elt [⟨tg, iter, ifs, 0⟩] scope pos) (some (.Name y py)) spos.line X.env = pure true := by exact sw_true rfl rfl rfl (by decide +kernel)) (his : ∀ i ∈ is, i ∈ own.map (·.2) := by decide) (hs : ∀ x, foldedSetIterable iter X.env x = pure x := by intro _; rfl) :
    JS X W C (.Assign [.Name y py] (.ListComp elt [⟨tg, iter, ifs, 0⟩] scope pos) spos) (.asg (.nm i) (.comp ee is one k its cond (own.map (·.2)))) :=
  by
  have hz : zOf X = ⟨X.K, [], X.prog, X.w⟩ := z_calm hc
  have hzb : ∀ (s : Shared) (H : Hp) (cenv : PySem.Env) (fp : List Addr), zOf (X.blk s H scope cenv fp) = ⟨X.K, [], X.prog, X.w⟩ := fun s H cenv fp => z_calm (X := X.blk s H scope cenv fp) hc
  have ht' : ∀ (s : Shared) (H : Hp) (C' : Addr) (cl : List (Str × Addr)) (fp : List Addr), PTs (X.blk s H scope (compEnvC scope cl C' X.env) fp) ifs (tCond ⟨X.K, [], X.prog, X.w⟩ X.mg C cond) := fun s H C' cl fp => by
    have z := ht s H C' cl fp
    rw [hzb] at z
    exact z
  have he' : ∀ (s : Shared) (H : Hp) (C' : Addr) (cl : List (Str × Addr)) (fp : List Addr), PE (X.blk s H scope (compEnvC scope cl C' X.env) fp) elt (tE ⟨X.K, [], X.prog, X.w⟩ X.mg W0 C ee) := fun s H C' cl fp => by
    have z := he s H C' cl fp
    unfold JE at z
    rw [hzb] at z
    exact z
  exact ps_imp (ps_setLc (te := tE ⟨X.K, [], X.prog, X.w⟩ X.mg W0 C ee) hc hN hy hyl hsw hi ok hg ht' he' hs) fun D σ H t => by
    have t' := asg_red (X := X) (fun _ z => comp_red his z) t
    rw [← hz]
    exact t'
/-- (a, b, ..) = e -/
theorem js_tup {tg : Expr} {is : List Nat} (ha : JE X W C a ea) (hg : PG X tg (gTup X.K is.length (gNs is))) (hs : swapsWithSole [tg] a pos.line X.env = pure false := by rfl) (hw : swappedStores [tg] a X.env = pure none := by rfl)
    (h1 : (assignEach [tg] X.env).map (·.2) = [assign tg X.env] := by rfl) : JS X W C (.Assign [tg] a pos) (.asg (.tup is) ea) := ps_imp (ps_asg ha hg hs hw h1) fun D σ H ⟨ρ, φ, h, sm, re, o⟩ =>
  ⟨ρ, φ, h, sm, re, (OutS.st (rel := RV (zOf X)) re (show OutS (zOf X) X.mg φ H W D ((evE C ea ρ h).st ρ fun v h1 => stTg C (.tup is) v ρ h1) from o)).imp fun x H1 ⟨φ1, v, h1, x1, s1, r1, o1⟩ => by
    cases v with
    | tup l =>
      simp only [stTg] at o1
      cases e : setAll ρ is l with
      | none => simp only [e] at o1; exact (show False from o1).elim
      | some ρ' =>
        simp only [e] at o1
        obtain ⟨ad, vs, hx, hq, r'⟩ := r1
        obtain ⟨g1, g2⟩ := setAll_ok (re.mono x1) r' e
        exact ⟨ad, vs, hx, hq.sq, g2.symm, gNs_ok g2 (OutS.atN o1 s1 g1)⟩
    | _ => exact (show False from o1).elim⟩
/-- a, b = x, y: two plain names -/
theorem js_par {i j : Nat} {x y : Str} {px py pt : Pos} {kt k2 : Nat} {pt2 : Pos} (hc : X.calm = true) (hN : X.N.Nodup) (ha : JA X W C [a, b] [ea, eb]) (hij : i ≠ j := by decide) (hi : X.N[i]? = some x := by rfl) (hj : X.N[j]? = some y := by rfl)
    (hx : X.env.scope.names.lookup x = some .local := by rfl) (hy : X.env.scope.names.lookup y = some .local := by rfl)
    (hw : swappedStores [.Tuple [.Name x px, .Name y py] kt pt] (.Tuple [a, b] k2 pt2) X.env = pure (some [x, y]) := by rfl)
    (hs : swapsWithSole [.Tuple [.Name x px, .Name y py] kt pt] (.Tuple [a, b] k2 pt2) pos.line X.env = pure false := by rfl) :
    JS X W C (.Assign [.Tuple [.Name x px, .Name y py] kt pt] (.Tuple [a, b] k2 pt2) pos) (.asg (.tup [i, j]) (.tup [ea, eb])) := ps_imp (ps_par hc hN hi hj hij hx hy ha hw hs) fun D σ H ⟨ρ, φ, h, sm, re, o⟩ => by
  have o' : OutS (zOf X) X.mg φ H W D ((evGs C [ea, eb] ρ h).st ρ fun l h1 => (tupO l h1).st ρ fun v h2 => stTg C (.tup [i, j]) v ρ h2) := by
    have e : exS C (.asg (.tup [i, j]) (.tup [ea, eb])) ρ h = (evGs C [ea, eb] ρ h).st ρ fun l h1 => (tupO l h1).st ρ fun v h2 => stTg C (.tup [i, j]) v ρ h2 := by
      show (((evGs C [ea, eb] ρ h).bind fun l h1 => tupO l h1).st ρ fun v h1 => stTg C (.tup [i, j]) v ρ h1) = _
      cases evGs C [ea, eb] ρ h <;> rfl
    rw [← e]
    exact o
  refine ⟨ρ, φ, h, sm, re, (OutS.st (rel := RVs (zOf X)) re o').imp fun vs H1 ⟨φ1, l, h1, x1, s1, r1, o1⟩ => ?_⟩
  unfold tupO at o1
  split at o1
  · have o2 : OutS (zOf X) X.mg φ1 H1 W D (match setAll ρ [i, j] l with | some ρ' => .nx ρ' h1 | none => .no) := o1
    cases e : setAll ρ [i, j] l with
    | none => rw [e] at o2; exact (show False from o2).elim
    | some ρ' =>
      rw [e] at o2
      obtain ⟨g1, g2⟩ := setAll_ok (re.mono x1) r1 e
      match vs, g2, g1 with
      | [v, w], _, g1 => exact ⟨v, w, rfl, OutS.atN o2 s1 g1⟩
  · exact (show False from o1).elim
/-- o[i] = e -/
theorem js_sub {o i : Expr} {eo ei : E} {tpos : Pos} (hu : X.A.units + 66 < cLine) (ha : JE X W C a ea) (ho : JE X W C o eo) (hi : JE X W C i ei)
    (hg : ∀ v, assign (.Subscript o i tpos) X.env v = (do
      let ov ← holding [v] (eval o X.env)
      let iv ← holding [v, ov] (eval i X.env)
      standAt tpos
      holding [v, ov, iv] (setItem ov iv v)
      release [v, ov, iv] []) := by intro _; rfl)
    (hs : swapsWithSole [.Subscript o i tpos] a pos.line X.env = pure false := by rfl) (hw : swappedStores [.Subscript o i tpos] a X.env = pure none := by rfl)
    (h1 : (assignEach [.Subscript o i tpos] X.env).map (·.2) = [assign (.Subscript o i tpos) X.env] := by rfl) : JS X W C (.Assign [.Subscript o i tpos] a pos) (.asg (.sub eo ei) ea) :=
  ps_imp (ps_asg ha (pg_sub ho hi (set_ok (by omega)) hg) hs hw h1) fun D σ H ⟨ρ, φ, h, sm, re, oo⟩ =>
    ⟨ρ, φ, h, sm, re, (OutS.st (rel := RV (zOf X)) re (show OutS (zOf X) X.mg φ H W D ((evE C ea ρ h).st ρ fun v h1 => (evE C eo ρ h1).st ρ fun x h2 => (evE C ei ρ h2).st ρ fun y h3 => match setop x y v h3 with | some h4 => .nx ρ h4 | none => .no) from oo)).imp fun x H1 ⟨φ1, v, h1, x1, s1, r1, o1⟩ =>
      ⟨ρ, φ1, h1, s1, re.mono x1, (OutS.st (rel := RV (zOf X)) (re.mono x1) o1).imp fun y H2 ⟨φ2, w, h2, x2, s2, r2, o2⟩ =>
        ⟨ρ, φ2, h2, s2, (re.mono x1).mono x2, (OutS.st (rel := RV (zOf X)) ((re.mono x1).mono x2) o2).imp fun z H3 ⟨φ3, u, h3, x3, s3, r3, o3⟩ => by
          cases e : setop w u v h3 with
          | none => rw [e] at o3; exact (show False from o3).elim
          | some h4 =>
            rw [e] at o3
            exact ⟨φ3, h3, w, u, v, h4, s3, r2.mono x3, r3, (r1.mono x2).mono x3, e, fun H4 x4 s4 => (show OutS (zOf X) X.mg φ3 H3 W D (.nx ρ h4) from o3) φ3 H4 σ x4 s4 ((((re.mono x1).mono x2).mono x3).mono x4)⟩⟩⟩⟩
theorem iop_ok {W' : XK} (op : Operator) : OpR X (inplaceOp op) (rOp (zOf X) X.mg W' (iopF op)) := by
  intro pins s σ H x y v u Q I rx ry hh
  obtain ⟨φ, h, a, b, sm, ra, rb, o⟩ := hh
  unfold iopF at o
  split at o
  · exact iop_add pins s σ H x y v u Q I rx ry ⟨_, _, ra, rb, o.at sm rfl⟩
  · exact iop_sub pins s σ H x y v u Q I rx ry ⟨_, _, ra, rb, o.at sm rfl⟩
  · split at o
    · rename_i hm
      exact iop_add_str pins s σ H x y v u Q I rx ry ⟨_, _, ra, rb, line_ok hm, o.at sm rfl⟩
    · exact o.elim
  · exact o.elim
theorem pget_ok : PGet X (fun x y H Q => ∃ W', rOp (zOf X) X.mg W' getL x y H Q) := by
  intro pins s σ H o i ov iv Q I ro ri hh
  obtain ⟨W', φ, h, a, b, sm, ra, rb, oo⟩ := hh
  unfold getL at oo
  split at oo
  · rename_i n k
    split at oo
    · rename_i hk
      split at oo
      · rename_i l e1
        obtain ⟨p, e2, q⟩ := oo.some
        obtain ⟨ad, vs, f1, g1, r1⟩ := sm.lst e1
        obtain ⟨b1, hx, q1⟩ := ra
        rw [f1] at q1
        cases q1
        obtain ⟨w, e3, rw'⟩ := r1.get e2
        subst hx
        cases ro
        rw [show i = .int k from rb] at ri
        obtain ⟨t, rfl⟩ := ri
        obtain ⟨its, rr, pl, hz⟩ := I.list (SqL.of g1)
        obtain ⟨u, eu, ru⟩ := rr.get e3
        have hl := rr.length
        have hlt := (List.getElem?_eq_some_iff.mp e3).1
        have hs := sizeLine_eq
        exact wpAny_getItem_list pl.isList hk (by omega) (by simpa using eu) ⟨w, H, I, ru, q.at sm rw'⟩
      · exact oo.elim
    · exact oo.elim
  · exact oo.elim
theorem js_augs {o i : Expr} {eo ei : E} {op : Operator} {tpos : Pos} (hu : X.A.units + 66 < cLine) (ho : JE X W C o eo) (hi : JE X W C i ei) (ha : JE X W C a ea)
    (hg : ∀ ov iv new, augStore i ov iv new = (do holding [new, ov, iv] (setItem ov iv new); release [new, ov, iv] []; pure .next) := by intros; rfl) : JS X W C (.AugAssign (.Subscript o i tpos) op a pos) (.augs eo ei op ea) :=
  ps_imp (ps_augS (tip := fun x y H Q => ∃ W', rOp (zOf X) X.mg W' (iopF op) x y H Q) ho hi pget_ok ha (opr_any fun W' => iop_ok (W' := W') op) (set_ok (by omega)) hg) fun D σ H ⟨ρ, φ, h, sm, re, oo⟩ =>
    ⟨ρ, φ, h, sm, re, (OutS.st (rel := RV (zOf X)) re (show OutS (zOf X) X.mg φ H W D ((evE C eo ρ h).st ρ fun ov h1 => (evE C ei ρ h1).st ρ fun iv h2 => (getL ov iv h2).st ρ fun x h3 => (evE C ea ρ h3).st ρ fun y h4 => (iopF op x y h4).st ρ fun z h5 => match setop ov iv z h5 with | some h6 => .nx ρ h6 | none => .no) from oo)).imp fun x H1 ⟨φ1, ov, h1, x1, s1, r1, o1⟩ =>
      ⟨ρ, φ1, h1, s1, re.mono x1, (OutS.st (rel := RV (zOf X)) (re.mono x1) o1).imp fun y H2 ⟨φ2, iv, h2, x2, s2, r2, o2⟩ =>
        ⟨_, φ2, h2, ov, iv, s2, r1.mono x2, r2, (OutS.st (rel := RV (zOf X)) ((re.mono x1).mono x2) o2).imp fun g H3 ⟨φ3, gv, h3, x3, s3, r3, o3⟩ =>
          ⟨ρ, φ3, h3, s3, ((re.mono x1).mono x2).mono x3, (OutS.st (rel := RV (zOf X)) (((re.mono x1).mono x2).mono x3) o3).imp fun y4 H4 ⟨φ4, yv, h4, x4, s4, r4, o4⟩ =>
            ⟨_, φ4, h4, gv, yv, s4, r3.mono x4, r4, (OutS.st (rel := RV (zOf X)) ((((re.mono x1).mono x2).mono x3).mono x4) o4).imp fun z H5 ⟨φ5, zv, h5, x5, s5, r5, o5⟩ => by
              have re5 := ((((re.mono x1).mono x2).mono x3).mono x4).mono x5
              cases e : setop ov iv zv h5 with
              | none => rw [e] at o5; exact (show False from o5).elim
              | some h6 =>
                rw [e] at o5
                exact ⟨φ5, h5, ov, iv, zv, h6, s5, (((r1.mono x2).mono x3).mono x4).mono x5, ((r2.mono x3).mono x4).mono x5, r5, e, fun H6 x6 s6 => (show OutS (zOf X) X.mg φ5 H5 W D (.nx ρ h6) from o5) φ5 H6 σ x6 s6 (re5.mono x6)⟩⟩⟩⟩⟩⟩
end
end Sb
namespace Sb
open PySem PySem.Spec L2
section
variable {K : ZZ} {mg : Str → Option Value} {φ : List Addr} {H : Hp} {W : WX} {D D' : Ends}
/-- a turn's end -/
theorem OutS.turn {m : RS} {f : Env → PH → RS} (h : OutS K mg φ H W D (m.turn f)) (hN : ∀ φ' H' σ' ρ' h', Ext φ φ' H H' → Sim K φ' h' H' → RE K φ' H' ρ' σ' → OutS K mg φ' H' W D (f ρ' h') → D'.nx σ' H') (hC : D'.ct = D'.nx) (hB : D'.bk = D.nx) (hR : D'.rt = D.rt) : OutS K mg φ H W D' m := by
  cases m with
  | nx ρ1 h1 => exact fun φ' H' σ' x s r => hN φ' H' σ' ρ1 h1 x s r (OutS.mono x h)
  | ct ρ1 h1 =>
    intro φ' H' σ' x s r
    rw [hC]
    exact hN φ' H' σ' ρ1 h1 x s r (OutS.mono x h)
  | bk ρ1 h1 =>
    intro φ' H' σ' x s r
    rw [hB]
    exact h φ' H' σ' x s r
  | rt v h1 =>
    intro φ' H' y x s r
    rw [hR]
    exact h φ' H' y x s r
  | ex y ρ1 h1 => exact h
  | no => exact h
end
section
variable {X : Cx} {W : WX} {C : Calls} {a b c tg iter : Expr} {st : Stmt} {sts rest : List Stmt} {pos : Pos} {ea eb ec : E} {s : S} {ss ss2 : List S}
theorem js_while0 (hp : PassesOwn (model X.prog X.w) X.A X.env X.xe) (hc : JT X W C c ec) (hb : JSs X W C sts ss) : JS X W C (.While c sts [] pos) (.whl ec ss) := ps_imp (ps_while hp hc hb) fun D σ H ⟨ρ, φ, h, sm, re, o⟩ => by
  have o' : OutS (zOf X) X.mg φ H W D (whileF (fun ρ h => evT C ec ρ h) (fun ρ h => exSs C ss ρ h) ρ h) := o
  have ne : whileF (fun ρ h => evT C ec ρ h) (fun ρ h => exSs C ss ρ h) ρ h ≠ .no := fun z => by
    rw [z] at o'
    exact o'
  obtain ⟨n, _, e⟩ := whileF_some ne
  rw [e] at o'
  refine ⟨fun m σ H => ∃ ρ φ h, Sim (zOf X) φ h H ∧ RE (zOf X) φ H ρ σ ∧ OutS (zOf X) X.mg φ H W D (zba (fun ρ h => evT C ec ρ h) (fun ρ h => exSs C ss ρ h) m ρ h), ⟨n, ρ, φ, h, sm, re, o'⟩, ?_⟩
  rintro m σ H ⟨ρ, φ, h, sm, re, o⟩
  cases m with
  | zero => exact (show False from o).elim
  | succ m =>
    refine ⟨ρ, φ, h, sm, re, (OutS.st (rel := RI) re (show OutS (zOf X) X.mg φ H W D ((evT C ec ρ h).st ρ fun k h1 => if k then (exSs C ss ρ h1).turn (zba (fun ρ h => evT C ec ρ h) (fun ρ h => exSs C ss ρ h) m) else .nx ρ h1) from o)).imp fun k H1 ⟨φ1, k1, h1, x1, s1, r1, o1⟩ => ?_⟩
    have r1' : k1 = k := r1
    subst r1'
    cases k1 with
    | false =>
      simp only [Bool.false_eq_true, if_false] at o1 ⊢
      exact OutS.atN o1 s1 (re.mono x1)
    | true =>
      simp only [if_true] at o1 ⊢
      refine ⟨fun σ H => ∃ ρ φ h, Sim (zOf X) φ h H ∧ RE (zOf X) φ H ρ σ ∧ OutS (zOf X) X.mg φ H W D (zba (fun ρ h => evT C ec ρ h) (fun ρ h => exSs C ss ρ h) m ρ h), fun σ' H' z => ⟨m, Nat.lt_succ_self m, z⟩, ρ, φ1, h1, s1, re.mono x1, ?_⟩
      exact OutS.turn o1 (fun φ' H' σ' ρ' h' x s r o => ⟨ρ', φ', h', s, r, o⟩) rfl rfl rfl
theorem js_for0 {is : List Nat} {one : TgK} {k : ITK} {its : List E} (hp : PassesOwn (model X.prog X.w) X.A X.env X.xe) (hc : X.calm = true) (hi : JI X W C tg iter k its) (hg : PG X tg (gT X.K is one)) (hb : JSs X W C sts ss)
    (hs : ∀ x, foldedSetIterable iter X.env x = pure x := by intro _; rfl) : JS X W C (.For tg iter sts [] pos) (.fr is one k its ss) := ps_imp (ps_for hp hc hi hg hb hs) fun D σ H ⟨ρ, φ, h, sm, re, o⟩ => by
  have o' : OutS (zOf X) X.mg φ H W D ((evI C k its ρ h).st ρ fun w h1 => forLoop w.2 (fun ρ x => setTg ρ is one x) (fun ρ h => exSs C ss ρ h) w.1 ρ h1) := by
    have e : exS C (.fr is one k its ss) ρ h = (evI C k its ρ h).st ρ fun w h1 => forLoop w.2 (fun ρ x => setTg ρ is one x) (fun ρ h => exSs C ss ρ h) w.1 ρ h1 := by
      unfold evI
      show ((evGs C its ρ h).st ρ _) = _
      cases evGs C its ρ h with
      | ok l h1 =>
        rw [R.st_ok, R.bind_ok]
        cases walkF k l h1 with
        | none => rfl
        | some w => rfl
      | ex x h1 => rfl
      | no => rfl
    rw [← e]
    exact o
  refine ⟨ρ, φ, h, sm, re, (OutS.st (rel := relW (zOf X)) re o').imp fun J H1 ⟨φ1, w, h1, x1, s1, wk, o1⟩ => ?_⟩
  obtain ⟨items, kp⟩ := w
  have wk : WalkOk (zOf X) J φ1 H1 items kp := wk
  refine ⟨fun i m σ2 H2 => ∃ ρ2 φ2 h2, m = (items.drop i).length ∧ Ext φ1 φ2 H1 H2 ∧ Sim (zOf X) φ2 h2 H2 ∧ RE (zOf X) φ2 H2 ρ2 σ2 ∧ OutS (zOf X) X.mg φ2 H2 W D (forLoop kp (fun ρ x => setTg ρ is one x) (fun ρ h => exSs C ss ρ h) (items.drop i) ρ2 h2),
    ⟨items.length, ρ, φ1, h1, rfl, Ext.refl _ _, s1, re.mono x1, o1⟩, ?_⟩
  rintro i m σ2 H2 ⟨ρ2, φ2, h2, hm, x2, s2, re2, o2⟩
  cases e : items.drop i with
  | nil =>
    rw [e] at o2
    unfold forLoop at o2
    split at o2
    · rename_i hs
      exact .inl ⟨wk.stop i φ2 h2 H2 x2.kp s2 hs (List.drop_eq_nil_iff.mp e), OutS.atN o2 s2 re2⟩
    · exact (show False from o2).elim
  | cons p rest =>
    have ei : items[i]? = some p := by
      have := congrArg (·[0]?) e
      simpa using this
    have er : items.drop (i + 1) = rest := by
      rw [← List.drop_drop, e]
      rfl
    rw [e] at o2
    unfold forLoop at o2
    split at o2
    · rename_i hs
      obtain ⟨hgo, hy⟩ := wk.go i φ2 h2 H2 p x2.kp s2 hs ei
      refine .inr ⟨hgo, fun σ3 H3 => ∃ ρ3 φ3 h3, Ext φ1 φ3 H1 H3 ∧ Sim (zOf X) φ3 h3 H3 ∧ RE (zOf X) φ3 H3 ρ3 σ3 ∧ OutS (zOf X) X.mg φ3 H3 W D (forLoop kp (fun ρ x => setTg ρ is one x) (fun ρ h => exSs C ss ρ h) rest ρ3 h3), fun σ3 H3 z => ?_, fun v H3 y => ?_⟩
      · obtain ⟨ρ3, φ3, h3, z1, z2, z3, z4⟩ := z
        refine ⟨rest.length, by rw [hm, e, List.length_cons]; omega, ρ3, φ3, h3, by rw [er], z1, z2, z3, ?_⟩
        rw [er]
        exact z4
      · obtain ⟨ex, sx, rx⟩ := hy v H3 y
        cases eb : setTg ρ2 is one p with
        | none => simp only [eb] at o2; exact (show False from o2).elim
        | some ρ3 =>
          simp only [eb] at o2
          refine gT_ok (re2.mono ex) rx eb fun σ3 re3 _ => ⟨ρ3, φ2, h2, sx, re3, ?_⟩
          exact OutS.turn (OutS.mono ex o2) (fun φ' H' σ' ρ' h' x s r o => ⟨ρ', φ', h', (x2.trans ex).trans x, s, r, o⟩) rfl rfl rfl
    · exact (show False from o2).elim
end
structure Cq (X : Cx) (W : WX) (k : Nat) : Prop where
  calm : X.calm = true
  nd : X.N.Nodup
  hr : Room (2 * k + 4) X.A
  tk : L2N.Takes X W
  po : PassesOwn (model X.prog X.w) X.A X.env X.xe
theorem Cq.blk {X : Cx} {W : WX} {k : Nat} (c : Cq X W k) (s : Shared) (H : Hp) (scope : Scope) (cenv : PySem.Env) (fp : List Addr) : Cq (X.blk s H scope cenv fp) W0 k := ⟨c.calm, c.nd, c.hr, takesN0, PassesOwn.never⟩
/-- a loop's or comprehension's target: one name, names -/
theorem tg_one {X : Cx} {i : Nat} {x : Str} {pos : Pos} (hN : X.N.Nodup) (hi : X.N[i]? = some x := by rfl) (hx : Loc X.env.scope x := by first | exact .inl rfl | exact .inr rfl) (hf : X.fn x = true ∨ X.env.scope.names.lookup x = some .local := by first | exact .inl rfl | exact .inr rfl | assumption) : PG X (.Name x pos) (gT X.K [i] .one) := pg_name hN hi hx hf
theorem tgs_nil {X : Cx} : PGs X [] (gNs []) := pgs_nil
theorem tgs_cons {X : Cx} {i : Nat} {is : List Nat} {x : Str} {pos : Pos} {es : List Expr} (hN : X.N.Nodup) (h2 : PGs X es (gNs is)) (hi : X.N[i]? = some x := by rfl) (hx : Loc X.env.scope x := by first | exact .inl rfl | exact .inr rfl) (hf : X.fn x = true ∨ X.env.scope.names.lookup x = some .local := by first | exact .inl rfl | exact .inr rfl | assumption)
    (hs : (assignEach (.Name x pos :: es) X.env).map (·.2) = assign (.Name x pos) X.env :: (assignEach es X.env).map (·.2) := by rfl) : PGs X (.Name x pos :: es) (gNs (i :: is)) := pgs_cons (pg_name hN hi hx hf) h2 hs
theorem tg_tup {X : Cx} {es : List Expr} {kk : Nat} {pos : Pos} {is : List Nat} (hc : X.calm = true) (h : PGs X es (gNs is)) (hn : (assignEach es X.env).length = is.length := by rfl) (hst : (assignEach es X.env).findIdx? (·.1) = none := by rfl) : PG X (.Tuple es kk pos) (gT X.K is .tup) := pg_tup hc h hn hst
theorem tg_tup' {X : Cx} {es : List Expr} {kk : Nat} {pos : Pos} {is : List Nat} (hc : X.calm = true) (h : PGs X es (gNs is)) (hn : (assignEach es X.env).length = is.length := by rfl) (hst : (assignEach es X.env).findIdx? (·.1) = none := by rfl) : PG X (.Tuple es kk pos) (gTup X.K is.length (gNs is)) := pg_tup hc h hn hst
/-- a comprehension's test -/
theorem cd_none {X : Cx} {C : Calls} : PTs X [] (tCond (zOf X) X.mg C none) := pts_nil
theorem cd_some {X : Cx} {C : Calls} {a : Expr} {e : E} (h : JT X W0 C a e) : PTs X [a] (tCond (zOf X) X.mg C (some e)) := pts_one h
theorem start_re {K : ZZ} {φ : List Addr} {H : Hp} : ∀ {ps : List PV} {vs : List V} (n : Nat), RVs K φ H ps vs → RE K φ H (ps.map some ++ List.replicate n none) (vs.map some ++ List.replicate n none)
  | [], vs, n, r => by
    have : vs = [] := r
    subst this
    show RE K φ H (List.replicate n none) (List.replicate n none)
    induction n with
    | zero => exact rfl
    | succ n ih => exact ⟨none, List.replicate n none, rfl, fun x e => (by cases e), ih⟩
  | p :: ps, vs, n, r => by
    obtain ⟨v, t, e, q, s⟩ := r
    subst e
    exact ⟨some v, _, rfl, fun x e => ⟨v, rfl, by cases e; exact q⟩, start_re n s⟩
theorem FunD.okC {P : Program} {w : World} {K : PySem.W.Frag} {mg : Str → Option Value} {base : Heap} {x qual : Str} {params : Arguments} {body : List Stmt} {scope : Scope} {dvs : List V} {kws : List (Str × V)} {f : Addr} {fd : FuncData} {CX : CXT} {N ps : List Str} {k : Nat} {sp : Sp} (F : FunD K x qual params body scope dvs kws f fd) (S : FnScope N ps scope) (len : ∀ vs H Q E, sp vs H Q E → vs.length = ps.length)
    (hbody : ∀ (cdv : Value) (A : Around) (outer : List PySem.Env) (s : Shared) (H : Hp) (vs : List V) (Q : VK) (E : XK), fd.code = cdv → Room k (A.deeper (PyProof.Rows.envOfC qual scope s.heap.objs.size f cdv)) → sp vs H Q E →
      ∃ t, PSs (cxOf CX P w K mg base N qual scope f cdv A outer s H E) body t ∧ t { nx := fun _ H' => Q .non H', rt := Q } (L2.start N vs) H) : FnOk P w K mg base CX (k + 1) f fd ps sp := by
  obtain ⟨oc, od, dV, kV, doc, pm, an, cdv, ct, osl, rfl, lk, hcd, _, _⟩ := F.ex
  exact fn_of lk hcd S len fun A outer s H vs Q E hr hsp => hbody cdv A outer s H vs Q E rfl hr hsp
theorem fn_ok {P : Program} {w : World} {K : PySem.W.Frag} {mg : Str → Option Value} {base : Heap} {x qual : Str} {params : Arguments} {body : List Stmt} {scope : Scope} {dvs : List V} {kws : List (Str × V)} {f : Addr} {fd : FuncData} {N ps : List Str} {k : Nat} {tbl : Nat → Fn} {fi : Nat}
    (F : FunD K x qual params body scope dvs kws f fd) (S : FnScope N ps scope) (hn : N.length = (tbl fi).ns) (hp : ps.length = (tbl fi).np)
    (hb : ∀ (cdv : Value) (A : Around) (outer : List PySem.Env) (s : Shared) (H : Hp) (E : XK), fd.code = cdv → Cq (cxOf (L2N.CX P w) P w K mg base N qual scope f cdv A outer s H E) (fun c d _ H => E c d H) k → JSs (cxOf (L2N.CX P w) P w K mg base N qual scope f cdv A outer s H E) (fun c d _ H => E c d H) (call tbl k) body (tbl fi).body) :
    FnOk P w K mg base (L2N.CX P w) (2 * (k + 1) + 3) f fd ps (spF ⟨K, [], P, w⟩ mg (call tbl (k + 1)) fi ps.length) := by
  refine FunD.okC F S (fun vs H Q E h => h.1) fun cdv A outer s H vs Q E hcd hr h => ?_
  obtain ⟨hl, φ, hh, pl, sm, r, o⟩ := h
  refine ⟨_, hb cdv A outer s H E hcd ⟨rfl, S.nd, hr, L2N.takes_of rfl rfl rfl rfl, PassesOwn.leaving⟩, ?_⟩
  have o' : Out ⟨K, [], P, w⟩ mg (RV ⟨K, [], P, w⟩) φ H E Q (runFn (call tbl k) (tbl fi) pl hh) := o
  unfold runFn at o'
  split at o'
  · rename_i hlen
    have re := start_re (N.length - vs.length) r
    have e1 : zan (tbl fi).ns pl = pl.map some ++ List.replicate (N.length - vs.length) none := by
      unfold zan
      rw [hn, r.length]
    refine ⟨zan (tbl fi).ns pl, φ, hh, sm, by rw [e1]; exact re, ?_⟩
    generalize exSs (call tbl k) (tbl fi).body (zan (tbl fi).ns pl) hh = m at o'
    cases m with
    | nx ρ h1 => exact fun φ' H' σ' x s r => o' φ' H' .non x s rfl
    | rt v h1 => exact fun φ' H' y x s r => o' φ' H' y x s r
    | ex y ρ h1 => exact fun φ' H' σ' c d x s _ r => o' φ' H' c d x s r
    | bk ρ h1 => exact (show False from o').elim
    | ct ρ h1 => exact (show False from o').elim
    | no => exact (show False from o').elim
  · exact (show False from o').elim
theorem fn_zero {P : Program} {w : World} {K : PySem.W.Frag} {mg : Str → Option Value} {base : Heap} {f : Addr} {fd : FuncData} {ps : List Str} {tbl : Nat → Fn} {fi : Nat} : FnOk P w K mg base (L2N.CX P w) (2 * 0 + 3) f fd ps (spF ⟨K, [], P, w⟩ mg (call tbl 0) fi ps.length) :=
  ⟨fun vs H Q E h => h.1, fun A outer s H args us vs Q E hr he hb hv h => by
    obtain ⟨_, φ, hh, pl, sm, r, o⟩ := h
    exact (show False from o).elim⟩
theorem cx_false {P : Program} {w : World} {H : Hp} {s : Shared} {e : Value} {s' : Shared} (h : L2N.CX P w [] H s (fun _ _ _ => False) e s') : False := by
  obtain ⟨_, _, _, _, _, _, _, _, _, _, _, _, z⟩ := h
  exact z.elim
end Sb
namespace Sb
open PySem
def R.Sat {α : Type} (m : R α) (Q : α → PH → Prop) : Prop := match m with | .ok a h => Q a h | _ => False
@[simp] theorem sat_ok {α : Type} (a : α) (h : PH) (Q : α → PH → Prop) : (R.ok a h).Sat Q = Q a h := rfl
@[simp] theorem sat_no {α : Type} (Q : α → PH → Prop) : (R.no : R α).Sat Q = False := rfl
@[simp] theorem sat_ex {α : Type} (x : Exn) (h : PH) (Q : α → PH → Prop) : (R.ex x h : R α).Sat Q = False := rfl
@[simp] theorem sat_bind {α β : Type} (m : R α) (f : α → PH → R β) (Q : β → PH → Prop) : (m.bind f).Sat Q = m.Sat fun a h => (f a h).Sat Q := by
  cases m <;> rfl
@[simp] theorem sat_calm {α : Type} (m : R α) (Q : α → PH → Prop) : m.calm.Sat Q = m.Sat Q := by
  cases m <;> rfl
theorem R.Sat.imp {α : Type} {m : R α} {Q Q' : α → PH → Prop} (s : m.Sat Q) (f : ∀ a h, Q a h → Q' a h) : m.Sat Q' := by
  cases m with
  | ok a h => exact f a h s
  | ex x h => exact s
  | no => exact s
theorem R.Sat.ex {α : Type} {m : R α} {Q : α → PH → Prop} (s : m.Sat Q) : ∃ a h, m = .ok a h ∧ Q a h := by
  cases m with
  | ok a h => exact ⟨a, h, rfl, s⟩
  | ex x h => exact s.elim
  | no => exact s.elim
theorem R.Sat.of {α : Type} {m : R α} {Q : α → PH → Prop} {a : α} {h : PH} (e : m = .ok a h) (q : Q a h) : m.Sat Q := by
  rw [e]
  exact q
@[simp] theorem sat_ofO {α : Type} (o : Option α) (h : PH) (Q : α → PH → Prop) : (ofO o h).Sat Q = ∃ a, o = some a ∧ Q a h := by
  cases o with
  | none => simp [ofO]
  | some a => simp [ofO]
@[simp] theorem sat_asB (m : R PV) (Q : Bool → PH → Prop) : (asB m).Sat Q = m.Sat fun x h => match x with | .bl b => Q b h | _ => False := by
  cases m with
  | ok p h => cases p <;> rfl
  | ex x h => rfl
  | no => rfl
/-- statements: N the next, T a return -/
def RS.Sat (m : RS) (N : Env → PH → Prop) (T : PV → PH → Prop) : Prop := match m with | .nx ρ h => N ρ h | .rt v h => T v h | _ => False
@[simp] theorem ssat_nx (ρ : Env) (h : PH) (N : Env → PH → Prop) (T : PV → PH → Prop) : (RS.nx ρ h).Sat N T = N ρ h := rfl
@[simp] theorem ssat_rt (v : PV) (h : PH) (N : Env → PH → Prop) (T : PV → PH → Prop) : (RS.rt v h).Sat N T = T v h := rfl
@[simp] theorem ssat_no (N : Env → PH → Prop) (T : PV → PH → Prop) : RS.no.Sat N T = False := rfl
@[simp] theorem ssat_seq (m : RS) (f : Env → PH → RS) (N : Env → PH → Prop) (T : PV → PH → Prop) : (m.seq f).Sat N T = m.Sat (fun ρ h => (f ρ h).Sat N T) T := by
  cases m <;> rfl
@[simp] theorem ssat_st {α : Type} (m : R α) (ρ : Env) (f : α → PH → RS) (N : Env → PH → Prop) (T : PV → PH → Prop) : (m.st ρ f).Sat N T = m.Sat fun a h => (f a h).Sat N T := by
  cases m <;> rfl
theorem RS.Sat.imp {m : RS} {N N' : Env → PH → Prop} {T T' : PV → PH → Prop} (s : m.Sat N T) (f : ∀ ρ h, N ρ h → N' ρ h) (g : ∀ v h, T v h → T' v h) : m.Sat N' T' := by
  cases m with
  | nx ρ h => exact f ρ h s
  | rt v h => exact g v h s
  | bk _ _ => exact s
  | ct _ _ => exact s
  | ex _ _ _ => exact s
  | no => exact s
section
variable {C : Calls} {t : Bool} {ρ : Env} {h : PH} {a b c : E}
@[simp] theorem g_var (i : Nat) : evG C (.var i) t ρ h = fin t (ofO (ρ.get i) h) := by rfl
@[simp] theorem g_lit (v : PV) : evG C (.lit v) t ρ h = fin t (.ok v h) := by rfl
@[simp] theorem g_bin (op : Operator) : evG C (.bin op a b) t ρ h = fin t ((evG C a false ρ h).bind fun x h1 => (evG C b false ρ h1).bind fun y h2 => binop op x y h2) := by rfl
@[simp] theorem g_neg : evG C (.neg a) t ρ h = fin t ((evG C a false ρ h).bind fun x h1 => match x with | .int i => .ok (.int (-i)) h1 | _ => .no) := by rfl
@[simp] theorem g_nt : evG C (.nt a) t ρ h = (evG C a t ρ h).bind fun x h1 => match x with | .bl b => .ok (.bl (!b)) h1 | _ => .no := by rfl
@[simp] theorem g_and : evG C (.band a b) t ρ h = (evG C a t ρ h).bind fun x h1 => match x with | .bl true => evG C b t ρ h1 | .bl false => .ok (.bl false) h1 | _ => .no := by
  rfl
@[simp] theorem g_or : evG C (.bor a b) t ρ h = (evG C a t ρ h).bind fun x h1 => match x with | .bl false => evG C b t ρ h1 | .bl true => .ok (.bl true) h1 | _ => .no := by
  rfl
@[simp] theorem g_cmp (op : CmpOp) : evG C (.cmp op a b) t ρ h = fin t ((evG C a false ρ h).bind fun x h1 => (evG C b false ρ h1).bind fun y h2 => zbi op x y h2) := by rfl
@[simp] theorem g_ite : evG C (.ite c a b) t ρ h = fin t ((evG C c true ρ h).bind fun x h1 => match x with | .bl true => evG C a false ρ h1 | .bl false => evG C b false ρ h1 | _ => .no) := by
  rfl
@[simp] theorem g_tup (es : List E) : evG C (.tup es) t ρ h = fin t ((evGs C es ρ h).bind fun l h1 => tupO l h1) := by rfl
@[simp] theorem g_lst (es : List E) : evG C (.lst es) t ρ h = fin t ((evGs C es ρ h).bind fun l h1 => alloc l h1) := by rfl
@[simp] theorem g_idx : evG C (.idx a b) t ρ h = fin t ((evG C a false ρ h).bind fun x h1 => (evG C b false ρ h1).bind fun y h2 => idxop x y h2) := by rfl
@[simp] theorem g_slc (lo hi : Option E) : evG C (.slc a lo hi) t ρ h = fin t ((evG C a false ρ h).bind fun x h1 => (evGo C lo ρ h1).bind fun l h2 => (evGo C hi ρ h2).bind fun u h3 => slcop x l u h3) := by rfl
@[simp] theorem g_call (f : Nat) (es : List E) (ds : List PV) : evG C (.call f es ds) t ρ h = fin t ((evGs C es ρ h).bind fun l h1 => C f (l ++ ds) h1) := by rfl
@[simp] theorem g_bi (b : BI) (es : List E) : evG C (.bi b es) t ρ h = fin t ((evGs C es ρ h).bind fun l h1 => biF b l h1) := by rfl
@[simp] theorem g_mth (m : MT) (es : List E) : evG C (.mth m a es) t ρ h = fin t ((evG C a false ρ h).bind fun x h1 => if tyOf h1 x = some m.ty then (evGs C es ρ h1).bind fun l h2 => mtF m x l h2 else .no) := by rfl
theorem g_comp (tg : List Nat) (one : TgK) (k : ITK) (its : List E) (cond : Option E) (own : List Nat) : evG C (.comp a tg one k its cond own) t ρ h = fin t ((evGs C its ρ h).bind fun l h1 =>
      match walkF k l h1 with
      | some (items, kp) => (za8 kp (fun x => setTg (wipeP ρ own) tg one x) (fun ρ1 h2 => (evGc C cond ρ1 h2).calm) (fun ρ1 h2 => (evG C a false ρ1 h2).calm) items [] h1).bind fun l h2 => alloc l h2
      | none => .no) := by rfl
@[simp] theorem gs_nil : evGs C [] ρ h = .ok [] h := by rfl
@[simp] theorem gs_cons (e : E) (es : List E) : evGs C (e :: es) ρ h = (evG C e false ρ h).bind fun x h1 => (evGs C es ρ h1).bind fun l h2 => .ok (x :: l) h2 := by rfl
@[simp] theorem go_none : evGo C none ρ h = .ok none h := by rfl
@[simp] theorem go_some : evGo C (some a) ρ h = (evG C a false ρ h).bind fun x h1 => match x with | .int i => .ok (some i) h1 | _ => .no := by rfl
@[simp] theorem gc_none : evGc C none ρ h = .ok true h := by rfl
@[simp] theorem gc_some : evGc C (some a) ρ h = asB (evG C a true ρ h) := by rfl
@[simp] theorem t_eq : evT C a ρ h = asB (evG C a true ρ h) := rfl
end
@[simp] theorem fin_f (m : R PV) : fin false m = m := rfl
@[simp] theorem sat_fin_t (m : R PV) (Q : PV → PH → Prop) : (fin true m).Sat Q = m.Sat fun v h => ∃ b, truthy h v = some b ∧ Q (.bl b) h := by
  cases m with
  | ok v h =>
    show (ofO ((truthy h v).map .bl) h).Sat Q = _
    rw [sat_ofO, sat_ok]
    cases truthy h v <;> simp
  | ex x h => rfl
  | no => rfl
@[simp] theorem get0 (v : Option PV) (ρ : Env) : Env.get (v :: ρ) 0 = v := by cases v <;> rfl
@[simp] theorem getS (v : Option PV) (ρ : Env) (i : Nat) : Env.get (v :: ρ) (i + 1) = Env.get ρ i := by
  unfold Env.get
  simp
@[simp] theorem tru_bl (h : PH) (b : Bool) : truthy h (.bl b) = some b := rfl
@[simp] theorem tru_int (h : PH) (i : Int) : truthy h (.int i) = some (i != 0) := rfl
@[simp] theorem tru_non (h : PH) : truthy h .non = some false := rfl
@[simp] theorem tru_tup (h : PH) (l : List PV) : truthy h (.tup l) = some (!l.isEmpty) := rfl
theorem tru_ref {h : PH} {n : Nat} {l : List PV} (e : h[n]? = some (.lst l)) : truthy h (.ref n) = some (!l.isEmpty) := by simp only [truthy, e]
section
variable {C : Calls} {ρ : Env} {h : PH} {N : Env → PH → Prop} {T : PV → PH → Prop} {e : E} {s : S} {ss ss2 : List S}
@[simp] theorem x_nil : (exSs C [] ρ h).Sat N T = N ρ h := by simp only [exSs, ssat_nx]
theorem zac : (exSs C (s :: ss) ρ h).Sat N T = (exS C s ρ h).Sat (fun ρ1 h1 => (exSs C ss ρ1 h1).Sat N T) T := by simp only [exSs, ssat_seq]
@[simp] theorem x_one : (exSs C [s] ρ h).Sat N T = (exS C s ρ h).Sat N T := by simp only [zac, x_nil]
@[simp] theorem x_set (i : Nat) : (exS C (.asg (.nm i) e) ρ h).Sat N T = (evG C e false ρ h).Sat fun v h1 => N (ρ.set i (some v)) h1 := by simp only [exS, ssat_st, stTg, ssat_nx]
@[simp] theorem x_tup (is : List Nat) : (exS C (.asg (.tup is) e) ρ h).Sat N T = (evG C e false ρ h).Sat fun v h1 => match v with | .tup l => (∃ ρ', setAll ρ is l = some ρ' ∧ N ρ' h1) | _ => False := by
  simp only [exS, ssat_st]
  congr 1
  funext v h1
  cases v with
  | tup l =>
    simp only [stTg]
    cases setAll ρ is l <;> simp
  | _ => rfl
@[simp] theorem x_unl (is : List Nat) : (exS C (.asg (.unl is) e) ρ h).Sat N T = (evG C e false ρ h).Sat fun v h1 => match v with | .ref n => (∃ l ρ', h1[n]? = some (.lst l) ∧ setAll ρ is l = some ρ' ∧ N ρ' h1) | _ => False := by
  simp only [exS, ssat_st]
  congr 1
  funext v h1
  cases v with
  | ref n =>
    simp only [stTg]
    cases h1[n]? with
    | none => simp
    | some o =>
      cases o with
      | lst l => cases e : setAll ρ is l <;> simp [e]
      | dct l => simp
      | obj c l => simp
      | dtp l => simp
  | _ => rfl
@[simp] theorem x_sub (o i : E) : (exS C (.asg (.sub o i) e) ρ h).Sat N T = (evG C e false ρ h).Sat fun v h1 => (evG C o false ρ h1).Sat fun x h2 => (evG C i false ρ h2).Sat fun y h3 => ∃ h4, setop x y v h3 = some h4 ∧ N ρ h4 := by
  simp only [exS, ssat_st, stTg]
  congr 1
  funext v h1
  congr 1
  funext x h2
  congr 1
  funext y h3
  cases setop x y v h3 <;> simp
@[simp] theorem x_if (t : E) : (exS C (.ifs t ss ss2) ρ h).Sat N T = (evG C t true ρ h).Sat fun x h1 => match x with | .bl true => (exSs C ss ρ h1).Sat N T | .bl false => (exSs C ss2 ρ h1).Sat N T | _ => False := by
  simp only [exS, ssat_st, t_eq, sat_asB]
  congr 1
  funext x h1
  cases x with
  | bl k => cases k <;> rfl
  | _ => rfl
@[simp] theorem x_ret : (exS C (.ret e) ρ h).Sat N T = (evG C e false ρ h).Sat T := by simp only [exS, ssat_st, ssat_rt]
@[simp] theorem x_ex : (exS C (.ex e) ρ h).Sat N T = (evG C e false ρ h).Sat fun _ h1 => N ρ h1 := by simp only [exS, ssat_st, ssat_nx]
@[simp] theorem x_aug (i : Nat) (op : Operator) : (exS C (.aug i op e) ρ h).Sat N T = ∃ x, ρ.get i = some x ∧ (evG C e false ρ h).Sat fun y h1 => (iopF op x y h1).Sat fun z h2 => N (ρ.set i (some z)) h2 := by
  simp only [exS]
  cases ρ.get i with
  | none => simp
  | some x => simp
@[simp] theorem x_augs (o i : E) (op : Operator) : (exS C (.augs o i op e) ρ h).Sat N T = (evG C o false ρ h).Sat fun ov h1 => (evG C i false ρ h1).Sat fun iv h2 => (getL ov iv h2).Sat fun x h3 => (evG C e false ρ h3).Sat fun y h4 => (iopF op x y h4).Sat fun z h5 => ∃ h6, setop ov iv z h5 = some h6 ∧ N ρ h6 := by
  simp only [exS, ssat_st]
  congr 1
  funext v h1
  congr 1
  funext x h2
  congr 1
  funext y h3
  congr 1
  funext y h3
  congr 1
  funext z h5
  cases setop v x z h5 <;> simp
end
/-- a def -/
theorem zav {C : Calls} {f : Fn} {vs : List PV} {h : PH} {Q : PV → PH → Prop} (hl : vs.length = f.np) (s : (exSs C f.body (zan f.ns vs) h).Sat (fun _ h => Q .non h) Q) : (runFn C f vs h).Sat Q := by
  unfold runFn
  rw [if_pos hl]
  generalize exSs C f.body (zan f.ns vs) h = m at s
  cases m with
  | nx ρ h => exact s
  | rt v h => exact s
  | bk _ _ => exact s
  | ct _ _ => exact s
  | ex _ _ _ => exact s
  | no => exact s
theorem zai (tbl : Nat → Fn) (k f : Nat) (vs : List PV) (h : PH) : call tbl (k + 1) f vs h = runFn (call tbl k) (tbl f) vs h := rfl
theorem whileN_sat {t : Env → PH → R Bool} {b : Env → PH → RS} {N : Env → PH → Prop} {T : PV → PH → Prop} (I : Nat → Env → PH → Prop)
    (hs : ∀ n ρ h, I n ρ h → (t ρ h).Sat fun c h1 => if c = true then (b ρ h1).Sat (fun ρ' h' => ∃ n', n' < n ∧ I n' ρ' h') T else N ρ h1) : ∀ (n m : Nat) (ρ : Env) (h : PH), n < m → I n ρ h → (whileF t b ρ h).Sat N T
  | n, 0, ρ, h, hm, _ => absurd hm (Nat.not_lt_zero _)
  | n, m + 1, ρ, h, hm, hi => by
    rw [whileF_eq, ssat_st]
    refine (hs n ρ h hi).imp fun c h1 q => ?_
    cases c with
    | false => exact q
    | true =>
      simp only [if_true] at q ⊢
      generalize b ρ h1 = r at q
      cases r with
      | nx ρ' h' =>
        obtain ⟨n', q1, q2⟩ := q
        exact whileN_sat I hs n' m ρ' h' (by omega) q2
      | rt v h' => exact q
      | bk _ _ => exact q.elim
      | ct _ _ => exact q.elim
      | ex _ _ _ => exact q.elim
      | no => exact q.elim
/-- a while, by an invariant with a number that falls -/
theorem x_whl {C : Calls} {e : E} {ss : List S} {ρ : Env} {h : PH} {N : Env → PH → Prop} {T : PV → PH → Prop} (I : Nat → Env → PH → Prop) (n : Nat) (hi : I n ρ h)
    (hs : ∀ n ρ h, I n ρ h → (evG C e true ρ h).Sat fun c h1 => match c with | .bl true => (exSs C ss ρ h1).Sat (fun ρ' h' => ∃ n', n' < n ∧ I n' ρ' h') T | .bl false => N ρ h1 | _ => False) : (exS C (.whl e ss) ρ h).Sat N T := by
  simp only [exS]
  refine whileN_sat I (fun n ρ h hi => ?_) n _ ρ h (Nat.lt_succ_self _) hi
  rw [t_eq, sat_asB]
  refine (hs n ρ h hi).imp fun c h1 q => ?_
  cases c with
  | bl k => cases k <;> simpa using q
  | _ => exact q
theorem for_sat {kp : Keep} {bind : Env → PV → Option Env} {b : Env → PH → RS} {N : Env → PH → Prop} {T : PV → PH → Prop} (I : Nat → Env → PH → Prop) : ∀ (items : List PV) (j : Nat) (ρ : Env) (h : PH), I j ρ h →
    (∀ (i : Nat) (x : PV) ρ h, items[i]? = some x → I (j + i) ρ h → zbs kp h ∧ ∃ ρ1, bind ρ x = some ρ1 ∧ (b ρ1 h).Sat (I (j + i + 1)) T) → (∀ ρ h, I (j + items.length) ρ h → zbs kp h ∧ N ρ h) → (forLoop kp bind b items ρ h).Sat N T
  | [], j, ρ, h, hi, _, hd => by
    obtain ⟨h1, h2⟩ := hd ρ h hi
    unfold forLoop
    rw [if_pos h1]
    exact h2
  | x :: xs, j, ρ, h, hi, hs, hd => by
    obtain ⟨h1, ρ1, h2, h3⟩ := hs 0 x ρ h rfl hi
    unfold forLoop
    rw [if_pos h1, h2]
    show ((b ρ1 h).turn _).Sat N T
    generalize b ρ1 h = r at h3
    have go : ∀ ρ' h', I (j + 1) ρ' h' → (forLoop kp bind b xs ρ' h').Sat N T := fun ρ' h' hi' => for_sat I xs (j + 1) ρ' h' hi' (fun i y ρ h e q => by
      have := hs (i + 1) y ρ h (by simpa using e)
      rw [show j + (i + 1) = j + 1 + i by omega] at this
      exact this q) (fun ρ h q => hd ρ h (by rw [List.length_cons, show j + (xs.length + 1) = j + 1 + xs.length by omega]; exact q))
    cases r with
    | nx ρ' h' => exact go ρ' h' h3
    | rt v h' => exact h3
    | bk _ _ => exact h3.elim
    | ct _ _ => exact h3.elim
    | ex _ _ _ => exact h3.elim
    | no => exact h3.elim
theorem x_for {C : Calls} {tg : List Nat} {one : TgK} {k : ITK} {its : List E} {ss : List S} {ρ : Env} {h : PH} {N : Env → PH → Prop} {T : PV → PH → Prop}
    (s : (evGs C its ρ h).Sat fun l h1 => ∃ items kp, walkF k l h1 = some (items, kp) ∧ ∃ I : Nat → Env → PH → Prop, I 0 ρ h1 ∧
      (∀ (i : Nat) (x : PV) ρ h, items[i]? = some x → I i ρ h → zbs kp h ∧ ∃ ρ1, setTg ρ tg one x = some ρ1 ∧ (exSs C ss ρ1 h).Sat (I (i + 1)) T) ∧ (∀ ρ h, I items.length ρ h → zbs kp h ∧ N ρ h)) : (exS C (.fr tg one k its ss) ρ h).Sat N T := by
  simp only [exS, ssat_st]
  refine s.imp fun l h1 ⟨items, kp, e, I, h0, hs, hd⟩ => ?_
  rw [e]
  refine for_sat I items 0 ρ h1 h0 (fun i x ρ h e q => ?_) fun ρ h q => hd ρ h (by simpa using q)
  have := hs i x ρ h e (by simpa using q)
  simpa using this
theorem comp_sat {kp : Keep} {bind : PV → Option Env} {t : Env → PH → R Bool} {e : Env → PH → R PV} {Q : List PV → PH → Prop} (I : Nat → List PV → PH → Prop) : ∀ (items : List PV) (j : Nat) (acc : List PV) (h : PH), I j acc h →
    (∀ (i : Nat) (x : PV) acc h, items[i]? = some x → I (j + i) acc h → zbs kp h ∧ ∃ ρ1, bind x = some ρ1 ∧ (t ρ1 h).Sat fun b h1 => if b = true then (e ρ1 h1).Sat fun v h2 => zay (acc.length + 1) = true ∧ I (j + i + 1) (acc ++ [v]) h2 else I (j + i + 1) acc h1) →
    (∀ acc h, I (j + items.length) acc h → zbs kp h ∧ Q acc h) → (za8 kp bind t e items acc h).Sat Q
  | [], j, acc, h, hi, _, hd => by
    obtain ⟨h1, h2⟩ := hd acc h hi
    unfold za8
    rw [if_pos h1]
    exact h2
  | x :: xs, j, acc, h, hi, hs, hd => by
    obtain ⟨h1, ρ1, h2, h3⟩ := hs 0 x acc h rfl hi
    unfold za8
    rw [if_pos h1, h2]
    show ((t ρ1 h).bind _).Sat Q
    rw [sat_bind]
    have go : ∀ acc' h', I (j + 1) acc' h' → (za8 kp bind t e xs acc' h').Sat Q := fun acc' h' hi' => comp_sat I xs (j + 1) acc' h' hi' (fun i y ρ h e q => by
      have := hs (i + 1) y ρ h (by simpa using e)
      rw [show j + (i + 1) = j + 1 + i by omega] at this
      exact this q) (fun ρ h q => hd ρ h (by rw [List.length_cons, show j + (xs.length + 1) = j + 1 + xs.length by omega]; exact q))
    refine h3.imp fun b h4 q => ?_
    cases b with
    | false => exact go acc h4 (by simpa using q)
    | true =>
      simp only [if_true] at q ⊢
      rw [sat_bind]
      refine q.imp fun v h5 ⟨q1, q2⟩ => ?_
      rw [if_pos q1]
      exact go _ h5 q2
/-- a comprehension -/
theorem v_comp {C : Calls} {tg : List Nat} {one : TgK} {k : ITK} {its : List E} {cond : Option E} {own : List Nat} {a : E} {ρ : Env} {h : PH} {Q : PV → PH → Prop}
    (s : (evGs C its ρ h).Sat fun l h1 => ∃ items kp, walkF k l h1 = some (items, kp) ∧ ∃ I : Nat → List PV → PH → Prop, I 0 [] h1 ∧
      (∀ (i : Nat) (x : PV) acc h, items[i]? = some x → I i acc h → zbs kp h ∧ ∃ ρ1, setTg (wipeP ρ own) tg one x = some ρ1 ∧ (evGc C cond ρ1 h).Sat fun b h1 => if b = true then (evG C a false ρ1 h1).Sat fun v h2 => zay (acc.length + 1) = true ∧ I (i + 1) (acc ++ [v]) h2 else I (i + 1) acc h1) ∧
      (∀ acc h, I items.length acc h → zbs kp h ∧ zay acc.length = true ∧ Q (.ref h.length) (h ++ [.lst acc]))) : (evG C (.comp a tg one k its cond own) false ρ h).Sat Q := by
  rw [g_comp, fin_f, sat_bind]
  refine s.imp fun l h1 ⟨items, kp, e, I, h0, hs, hd⟩ => ?_
  rw [e]
  show ((za8 kp _ _ _ items [] h1).bind _).Sat Q
  rw [sat_bind]
  refine comp_sat I items 0 [] h1 h0 (fun i x acc h e q => ?_) fun acc h q => ?_
  · obtain ⟨q1, ρ1, q2, q3⟩ := hs i x acc h e (by simpa using q)
    refine ⟨q1, ρ1, q2, ?_⟩
    rw [sat_calm]
    refine q3.imp fun b h2 q4 => ?_
    cases b with
    | false => simpa using q4
    | true => simpa using q4
  · obtain ⟨q1, q2, q3⟩ := hd acc h (by simpa using q)
    refine ⟨q1, ?_⟩
    unfold alloc
    rw [if_pos q2]
    exact q3
/-- .. where what is walked is known -/
theorem v_compE {C : Calls} {tg : List Nat} {one : TgK} {k : ITK} {its : List E} {cond : Option E} {own : List Nat} {a : E} {ρ : Env} {h h1 : PH} {Q : PV → PH → Prop} {l items : List PV} {kp : Keep} (e1 : evGs C its ρ h = .ok l h1) (e2 : walkF k l h1 = some (items, kp)) (I : Nat → List PV → PH → Prop) (h0 : I 0 [] h1)
    (hs : ∀ (i : Nat) (x : PV) acc h, items[i]? = some x → I i acc h → zbs kp h ∧ ∃ ρ1, setTg (wipeP ρ own) tg one x = some ρ1 ∧ (evGc C cond ρ1 h).Sat fun b h1 => if b = true then (evG C a false ρ1 h1).Sat fun v h2 => zay (acc.length + 1) = true ∧ I (i + 1) (acc ++ [v]) h2 else I (i + 1) acc h1)
    (hd : ∀ acc h, I items.length acc h → zbs kp h ∧ zay acc.length = true ∧ Q (.ref h.length) (h ++ [.lst acc])) : (evG C (.comp a tg one k its cond own) false ρ h).Sat Q :=
  v_comp (by rw [e1]; exact ⟨items, kp, e2, I, h0, hs, hd⟩)
theorem x_forE {C : Calls} {tg : List Nat} {one : TgK} {k : ITK} {its : List E} {ss : List S} {ρ : Env} {h h1 : PH} {N : Env → PH → Prop} {T : PV → PH → Prop} {l items : List PV} {kp : Keep} (e1 : evGs C its ρ h = .ok l h1) (e2 : walkF k l h1 = some (items, kp)) (I : Nat → Env → PH → Prop) (h0 : I 0 ρ h1)
    (hs : ∀ (i : Nat) (x : PV) ρ h, items[i]? = some x → I i ρ h → zbs kp h ∧ ∃ ρ1, setTg ρ tg one x = some ρ1 ∧ (exSs C ss ρ1 h).Sat (I (i + 1)) T) (hd : ∀ ρ h, I items.length ρ h → zbs kp h ∧ N ρ h) : (exS C (.fr tg one k its ss) ρ h).Sat N T :=
  x_for (by rw [e1]; exact ⟨items, kp, e2, I, h0, hs, hd⟩)
section
variable {h : PH} {i j : Int} {α : Type}
@[simp] theorem sat_ite (c : Prop) [Decidable c] (m n : R α) (Q : α → PH → Prop) : (if c then m else n).Sat Q = if c then m.Sat Q else n.Sat Q := by split <;> rfl
@[simp] theorem b_add : binop .Add (.int i) (.int j) h = .ok (.int (i + j)) h := rfl
@[simp] theorem b_sub : binop .Sub (.int i) (.int j) h = .ok (.int (i - j)) h := rfl
theorem b_mul (e : mulOk i j = true) : binop .Mult (.int i) (.int j) h = .ok (.int (i * j)) h := by
  show (if mulOk i j then _ else _) = _
  rw [if_pos e]
theorem b_fdiv (e : divOk j = true) : binop .FloorDiv (.int i) (.int j) h = .ok (.int (i.fdiv j)) h := by
  show (if divOk j then _ else _) = _
  rw [if_pos e]
theorem b_mod (e : j ≠ 0) : binop .Mod (.int i) (.int j) h = .ok (.int (i.fmod j)) h := by
  show (if j = 0 then _ else _) = _
  rw [if_neg e]
theorem b_pow (e : powOk i j = true) : binop .Pow (.int i) (.int j) h = .ok (.int (i ^ j.toNat)) h := by
  show (if powOk i j then _ else _) = _
  rw [if_pos e]
@[simp] theorem c_lt : zbi .Lt (.int i) (.int j) h = .ok (.bl (decide (i < j))) h := rfl
@[simp] theorem c_le : zbi .LtE (.int i) (.int j) h = .ok (.bl (decide (i ≤ j))) h := rfl
@[simp] theorem c_gt : zbi .Gt (.int i) (.int j) h = .ok (.bl (decide (j < i))) h := rfl
@[simp] theorem c_ge : zbi .GtE (.int i) (.int j) h = .ok (.bl (decide (j ≤ i))) h := rfl
@[simp] theorem c_eqI : zbi .Eq (.int i) (.int j) h = .ok (.bl (decide (i = j))) h := by
  show ofO ((eqP h (.int i) (.int j)).map PV.bl) h = _
  have : eqP h (.int i) (.int j) = some (i == j) := by simp [eqP, pd, PyData.eqv]
  rw [this]
  show R.ok (PV.bl (i == j)) h = _
  rw [show (i == j) = decide (i = j) from by rw [Bool.eq_iff_iff]; simp]
@[simp] theorem c_neI : zbi .NotEq (.int i) (.int j) h = .ok (.bl (!decide (i = j))) h := by
  show ofO ((eqP h (.int i) (.int j)).map fun b => PV.bl (!b)) h = _
  have : eqP h (.int i) (.int j) = some (i == j) := by simp [eqP, pd, PyData.eqv]
  rw [this]
  show R.ok (PV.bl (!(i == j))) h = _
  rw [show (i == j) = decide (i = j) from by rw [Bool.eq_iff_iff]; simp]
@[simp] theorem c_eqB (a b : Bool) : zbi .Eq (.bl a) (.bl b) h = .ok (.bl (decide (a = b))) h := by cases a <;> cases b <;> rfl
@[simp] theorem c_neB (a b : Bool) : zbi .NotEq (.bl a) (.bl b) h = .ok (.bl (!decide (a = b))) h := by cases a <;> cases b <;> rfl
@[simp] theorem c_eqS (a b : Str) : zbi .Eq (.str a) (.str b) h = .ok (.bl (decide (a = b))) h := rfl
@[simp] theorem c_isN (a : PV) : zbi .Is a .non h = .ok (.bl (isNonP a)) h := by cases a <;> rfl
@[simp] theorem c_isnN (a : PV) : zbi .IsNot a .non h = .ok (.bl (!isNonP a)) h := by cases a <;> rfl
@[simp] theorem io_add : iopF .Add (.int i) (.int j) h = .ok (.int (i + j)) h := rfl
@[simp] theorem tupO_small (l : List PV) (e : l.length ≤ 1000000) : tupO l h = .ok (.tup l) h := by
  unfold tupO
  rw [if_pos (show zay l.length = true from decide_eq_true e)]
theorem zaf (l : List PV) (e : l.length ≤ 1000000) : alloc l h = .ok (.ref h.length) (h ++ [.lst l]) := by
  unfold alloc
  rw [if_pos (show zay l.length = true from decide_eq_true e)]
theorem idx_ref {n : Nat} {l : List PV} {v : PV} (e : h[n]? = some (.lst l)) (e2 : L2.atI l i = some v) : idxop (.ref n) (.int i) h = .ok v h := by
  unfold idxop
  simp only [seqOf, e, e2, ofO_some]
theorem at_nat {β : Type} {l : List β} {n : Nat} {v : β} (e : l[n]? = some v) : L2.atI l (n : Int) = some v := by
  unfold L2.atI L2.ixN
  have := (List.getElem?_eq_some_iff.mp e).1
  rw [if_pos (by omega), if_pos (by omega)]
  simpa using e
theorem at_pos {β : Type} {l : List β} {i : Int} {v : β} (h0 : 0 ≤ i) (e : l[i.toNat]? = some v) : L2.atI l i = some v := by
  have := at_nat (n := i.toNat) e
  rwa [Int.toNat_of_nonneg h0] at this
end
theorem fmod_pos {a b : Int} (h : 0 < b) : a.fmod b = a % b := Int.fmod_eq_emod_of_nonneg a (by omega)
theorem fdiv_pos {a b : Int} (h : 0 < b) : a.fdiv b = a / b := Int.fdiv_eq_ediv_of_nonneg a (by omega)
theorem log2_small {x : Int} {n : Nat} (h0 : 0 < n) (h : x.natAbs < 2 ^ n) : x.natAbs.log2 < n := PySem.Flt.log2_lt_of h0 h
theorem mul_ok {i j : Int} {a b : Nat} (ha : i.natAbs < 2 ^ a) (hb : j.natAbs < 2 ^ b) (h0 : 0 < a) (h1 : 0 < b) (h : a + b ≤ 1000000) : mulOk i j = true := by
  have x := log2_small h0 ha
  have y := log2_small h1 hb
  exact decide_eq_true (by omega)
theorem div_ok {j : Int} {b : Nat} (hj : j ≠ 0) (hb : j.natAbs < 2 ^ b) (h1 : 0 < b) (h : b ≤ 9000) : divOk j = true := by
  have y := log2_small h1 hb
  unfold divOk
  rw [decide_eq_true hj, decide_eq_true (show j.natAbs.log2 < 9000 by omega)]
  rfl
theorem zbp {n : Nat} (h : n ≤ 1000000) : zay n = true := decide_eq_true h
end Sb
namespace Sb
open PySem
def F_law_start : Fn := ⟨1, 3, [.asg (.nm 1) (.comp (.var 2) [2] .one .seq [(.var 0)] (some (.cmp .GtE (.var 2) (.bin .Pow (.lit (.int 10)) (.lit (.int 18))))) [2]),
  .ret (.lst [(.var 1), (.lit (.int 0)), (.comp (.bin .Mod (.var 2) (.lit (.int 2147483587))) [2] .one .seq [(.var 0)] none [2]), (.lit (.int 0))])]⟩
def F_law_mix : Fn := ⟨1, 4, [.augs (.var 0) (.lit (.int 3)) .Add (.lit (.int 1)),
  .asg (.nm 1) (.idx (.var 0) (.lit (.int 3))),
  .asg (.nm 2) (.lit (.int 11)),
  .ifs (.idx (.var 0) (.lit (.int 2))) [.asg (.nm 2) (.idx (.idx (.var 0) (.lit (.int 2))) (.bin .Mod (.var 1) (.bi .len [(.idx (.var 0) (.lit (.int 2)))])))] [],
  .asg (.nm 3) (.bin .Mod (.bin .Pow (.bin .Add (.bin .Add (.bin .Add (.var 2) (.bin .Mult (.bin .Mult (.lit (.int 769)) (.var 1)) (.var 1))) (.bin .Mult (.lit (.int 52361)) (.var 1))) (.lit (.int 23))) (.lit (.int 5))) (.lit (.int 2147483647))),
  .ret (.bin .Mod (.bin .Add (.bin .Mult (.var 3) (.lit (.int 48271))) (.bin .Mult (.lit (.int 6007)) (.var 1))) (.lit (.int 1000000007)))]⟩
def F_law_draw : Fn := ⟨2, 4, [.ifs (.band (.cmp .Eq (.idx (.var 0) (.lit (.int 1))) (.lit (.int 0))) (.idx (.var 0) (.lit (.int 0)))) [.asg (.sub (.var 0) (.lit (.int 1))) (.mth .popAt (.idx (.var 0) (.lit (.int 0))) [(.lit (.int 0))])] [],
  .ifs (.cmp .Gt (.idx (.var 0) (.lit (.int 1))) (.lit (.int 0))) [.asg (.nm 2) (.bin .Mod (.idx (.var 0) (.lit (.int 1))) (.var 1)),
  .asg (.sub (.var 0) (.lit (.int 1))) (.bin .FloorDiv (.idx (.var 0) (.lit (.int 1))) (.var 1)),
  .ret (.var 2)] [],
  .asg (.nm 2) (.lit (.int 0)),
  .asg (.nm 3) (.lit (.int 1)),
  .whl (.cmp .Lt (.var 3) (.var 1)) [.asg (.nm 2) (.bin .Add (.bin .Mult (.var 2) (.lit (.int 1000000007))) (.call 5 [(.var 0)] [])),
  .asg (.nm 3) (.bin .Mult (.var 3) (.lit (.int 1000000007)))],
  .ret (.bin .Mod (.var 2) (.var 1))]⟩
def F_law_same : Fn := ⟨2, 4, [.ifs (.bi .isinst [(.var 1), (.tup [(.lit (.ty .tuple)), (.lit (.ty .list))])]) [.ifs (.cmp .NotEq (.bi .isinst [(.var 0), (.lit (.ty .tuple))]) (.bi .isinst [(.var 1), (.lit (.ty .tuple))])) [.ret (.lit (.bl false))] [],
  .ifs (.bor (.cmp .NotEq (.bi .isinst [(.var 0), (.lit (.ty .list))]) (.bi .isinst [(.var 1), (.lit (.ty .list))])) (.cmp .NotEq (.bi .len [(.var 0)]) (.bi .len [(.var 1)]))) [.ret (.lit (.bl false))] [],
  .ret (.bi .all [(.comp (.call 7 [(.var 2), (.var 3)] []) [2, 3] .tup .zip [(.var 0), (.var 1)] none [2, 3])])] [],
  .ifs (.cmp .Is (.var 1) (.lit .non)) [.ret (.cmp .Is (.var 0) (.lit .non))] [],
  .ifs (.bi .isinst [(.var 1), (.lit (.ty .str))]) [.ret (.band (.bi .isinst [(.var 0), (.lit (.ty .str))]) (.cmp .Eq (.var 0) (.var 1)))] [],
  .ret (.band (.bi .isinst [(.var 0), (.lit (.ty .int))]) (.band (.cmp .Eq (.bi .isinst [(.var 0), (.lit (.ty .bool))]) (.bi .isinst [(.var 1), (.lit (.ty .bool))])) (.cmp .Eq (.var 0) (.var 1))))]⟩
def F_in_order : Fn := ⟨1, 1, [.ret (.srt (.var 0))]⟩
def F_tie_rows : Fn := ⟨1, 8, [.asg (.nm 1) (.dct []),
  .asg (.nm 2) (.lst []),
  .fr [3] .one .seq [(.call 32 [(.var 0)] [])] [.asg (.nm 4) (.mth .setd (.var 1) [(.idx (.var 3) (.lit (.int 1))), (.idx (.var 3) (.lit (.int 1)))]),
  .asg (.nm 5) (.mth .setd (.var 1) [(.idx (.var 3) (.lit (.int 2))), (.idx (.var 3) (.lit (.int 2)))]),
  .ifs (.cmp .NotEq (.var 4) (.var 5)) [.asg (.nm 1) (.remark 1 4 5),
  .ex (.mth .append (.var 2) [(.var 3)])] []],
  .ret (.var 2)]⟩
def F_steps_from : Fn := ⟨2, 7, [.asg (.nm 2) (.lst []),
  .fr [3, 4, 5, 6] .star .seq [(.var 0)] [.ifs (.cmp .Eq (.var 4) (.var 1)) [.ex (.mth .append (.var 2) [(.tup [(.tup [(.var 3), (.lit (.bl true))]), (.var 5)])])] [],
  .ifs (.cmp .Eq (.var 5) (.var 1)) [.ex (.mth .append (.var 2) [(.tup [(.tup [(.var 3), (.lit (.bl false))]), (.var 4)])])] []],
  .ret (.var 2)]⟩
def F_roads_among : Fn := ⟨2, 7, [.asg (.nm 2) (.dct [(.var 1), (.lst [])]),
  .asg (.nm 3) (.lst [(.var 1)]),
  .whl (.cmp .Gt (.bi .len [(.var 3)]) (.lit (.int 0))) [.asg (.nm 4) (.mth .popAt (.var 3) [(.lit (.int 0))]),
  .fr [5, 6] .tup .seq [(.call 40 [(.var 0), (.var 4)] [])] [.ifs (.cmp .NotIn (.var 6) (.var 2)) [.asg (.sub (.var 2) (.var 6)) (.bin .Add (.idx (.var 2) (.var 4)) (.lst [(.var 5)])),
  .ex (.mth .append (.var 3) [(.var 6)])] []]],
  .ret (.var 2)]⟩
def F_road_among : Fn := ⟨3, 3, [.ret (.mth .get1 (.call 41 [(.var 0), (.var 1)] []) [(.var 2)])]⟩
def F_road_of : Fn := ⟨3, 4, [.asg (.nm 3) (.call 42 [(.call 39 [(.var 0)] []), (.var 1), (.var 2)] []),
  .ifs (.cmp .Is (.var 3) (.lit .non)) [.raise "NotJoined" ["end", "start"] [(.var 1), (.var 2)]] [],
  .ret (.var 3)]⟩
def F_chain_move : Fn := ⟨2, 7, [.asg (.nm 2) (.dcomp (.idx (.var 6) (.lit (.int 0))) (.idx (.var 6) (.lit (.int 3))) [6] .one .seq [(.var 0)] none [6]),
  .asg (.nm 3) (.lit (.tup [(.tup [(.int 1), (.int 1)]), (.tup [(.int 0), (.int 1)])])),
  .fr [4, 5] .tup .seq [(.var 1)] [.asg (.nm 3) (.call 22 [(.var 3), (.ite (.var 5) (.idx (.var 2) (.var 4)) (.call 23 [(.idx (.var 2) (.var 4))] []))] [])],
  .ret (.var 3)]⟩
def F_move_of : Fn := ⟨3, 3, [.ret (.call 44 [(.var 0), (.call 43 [(.var 0), (.var 1), (.var 2)] [])] [])]⟩
def F_law_alone : Fn := ⟨1, 2, [.asg (.nm 1) (.lst [(.bi .isx [(.var 0), (.lit (.cls "NoBottom"))]), (.bi .isx [(.var 0), (.lit (.cls "NotJoined"))]), (.bi .isx [(.var 0), (.lit (.cls "NoTelling"))]), (.bi .isx [(.var 0), (.lit (.cls "NoTie"))])]),
  .asg (.nm 1) (.bin .Add (.var 1) (.lst [(.bi .isx [(.var 0), (.lit (.cls "BadName"))]), (.bi .isx [(.var 0), (.lit (.cls "Taken"))]), (.bi .isx [(.var 0), (.lit (.cls "NoSuch"))]), (.bi .isx [(.var 0), (.lit (.cls "InUse"))])])),
  .asg (.nm 1) (.bin .Add (.var 1) (.lst [(.bi .isx [(.var 0), (.lit (.cls "Full"))]), (.bi .isx [(.var 0), (.lit (.cls "Far"))]), (.bi .isx [(.var 0), (.lit (.cls "Flat"))]), (.bi .isx [(.var 0), (.lit (.cls "BadWeight"))])])),
  .asg (.nm 1) (.bin .Add (.var 1) (.lst [(.bi .isx [(.var 0), (.lit (.cls "SameScale"))]), (.bi .isx [(.var 0), (.lit (.cls "Vouched"))]), (.bi .isx [(.var 0), (.lit (.cls "NotVouched"))])])),
  .asg (.nm 1) (.bin .Add (.var 1) (.lst [(.bi .isx [(.var 0), (.lit (.cls "NotSheer"))]), (.bi .isx [(.var 0), (.lit (.cls "Clash"))]), (.bi .isx [(.var 0), (.lit (.cls "NoText"))]), (.bi .isx [(.var 0), (.lit (.cls "NoBook"))])])),
  .asg (.nm 1) (.bin .Add (.var 1) (.lst [(.bi .isx [(.var 0), (.lit (.cls "NoLevel"))]), (.bi .isx [(.var 0), (.lit (.cls "NothingDone"))]), (.bi .isx [(.var 0), (.lit (.cls "NoLine"))])])),
  .ret (.band (.cmp .Eq (.mth .count (.var 1) [(.lit (.bl true))]) (.lit (.int 1))) (.band (.bi .isx [(.var 0), (.lit (.cls "BookError"))]) (.bi .isx [(.var 0), (.lit (.cls "ValueError"))])))]⟩
def F_law_some_thing : Fn := ⟨1, 1, [.ret (.idx (.lst [(.lit (.str "a")), (.lit (.str "abcdefgh")), (.lit (.str "")), (.lit (.str "A")), (.lit (.int 7)), (.lit .non), (.lit (.bl true)), (.tup [(.lit (.str "a"))]), (.lst [(.lit (.int 1))]), (.tup [(.lit (.int 0)), (.lit (.int 1))]), (.bin .Pow (.lit (.int 10)) (.lit (.int 20))), (.neg (.lit (.int 3)))]) (.call 6 [(.var 0), (.lit (.int 12))] []))]⟩
def F_law_mine : Fn := ⟨1, 3, [.asg (.nm 1) (.lst [(.bi .isx [(.var 0), (.lit (.cls "NotJoined"))]), (.bi .isx [(.var 0), (.lit (.cls "Taken"))]), (.bi .isx [(.var 0), (.lit (.cls "NoSuch"))]), (.bi .isx [(.var 0), (.lit (.cls "InUse"))])]),
  .asg (.nm 1) (.bin .Add (.var 1) (.lst [(.bi .isx [(.var 0), (.lit (.cls "Far"))]), (.bi .isx [(.var 0), (.lit (.cls "Clash"))]), (.bi .isx [(.var 0), (.lit (.cls "Vouched"))]), (.bi .isx [(.var 0), (.lit (.cls "NotVouched"))])])),
  .asg (.nm 1) (.bin .Add (.var 1) (.lst [(.bi .isx [(.var 0), (.lit (.cls "NoBottom"))]), (.bi .isx [(.var 0), (.lit (.cls "NoTelling"))]), (.bi .isx [(.var 0), (.lit (.cls "NoTie"))]), (.bi .isx [(.var 0), (.lit (.cls "BadName"))])])),
  .asg (.nm 1) (.bin .Add (.var 1) (.lst [(.bi .isx [(.var 0), (.lit (.cls "Full"))]), (.bi .isx [(.var 0), (.lit (.cls "Flat"))]), (.bi .isx [(.var 0), (.lit (.cls "BadWeight"))]), (.bi .isx [(.var 0), (.lit (.cls "SameScale"))])])),
  .asg (.nm 1) (.bin .Add (.var 1) (.lst [(.bi .isx [(.var 0), (.lit (.cls "NotSheer"))]), (.bi .isx [(.var 0), (.lit (.cls "NoText"))]), (.bi .isx [(.var 0), (.lit (.cls "NoBook"))]), (.bi .isx [(.var 0), (.lit (.cls "NoLevel"))])])),
  .asg (.nm 1) (.bin .Add (.var 1) (.lst [(.bi .isx [(.var 0), (.lit (.cls "NothingDone"))]), (.bi .isx [(.var 0), (.lit (.cls "NoLine"))])])),
  .ret (.comp (.var 2) [2] .one .range [(.lit (.int 22))] (some (.idx (.var 1) (.var 2))) [2])]⟩
def F_law_single : Fn := ⟨2, 3, [.asg (.nm 2) (.lst [(.bi (.xmk "NoBottom" ["top"]) [(.var 1)]), (.bi (.xmk "NoTelling" ["name"]) [(.var 1)]), (.bi (.xmk "NoTie" ["name"]) [(.var 1)]), (.bi (.xmk "BadName" ["name"]) [(.var 1)]), (.bi (.xmk "Full" ["kind"]) [(.var 1)])]),
  .asg (.nm 2) (.bin .Add (.var 2) (.lst [(.bi (.xmk "Flat" ["a"]) [(.var 1)]), (.bi (.xmk "BadWeight" ["weight"]) [(.var 1)]), (.bi (.xmk "SameScale" ["name"]) [(.var 1)]), (.bi (.xmk "NotSheer" ["part"]) [(.var 1)])])),
  .asg (.nm 2) (.bin .Add (.var 2) (.lst [(.bi (.xmk "NoText" ["row"]) [(.var 1)]), (.bi (.xmk "NoBook" ["name"]) [(.var 1)])])),
  .ret (.tup [(.idx (.var 2) (.bin .Sub (.var 0) (.lit (.int 8)))), (.lst [(.var 1)])])]⟩
def F_law_by_names : Fn := ⟨3, 3, [.ifs (.cmp .Eq (.var 0) (.lit (.int 0))) [.ret (.tup [(.bi (.xmk "NotJoined" ["end", "start"]) [(.var 1), (.var 2)]), (.lst [(.var 1), (.var 2)])])] [],
  .ifs (.cmp .Eq (.var 0) (.lit (.int 1))) [.ret (.tup [(.bi (.xmk "Taken" ["name", "kind"]) [(.var 1), (.var 2)]), (.lst [(.var 1), (.var 2)])])] [],
  .ifs (.cmp .Eq (.var 0) (.lit (.int 2))) [.ret (.tup [(.bi (.xmk "NoSuch" ["name", "kind"]) [(.var 1), (.var 2)]), (.lst [(.var 1), (.var 2)])])] [],
  .ifs (.cmp .Eq (.var 0) (.lit (.int 3))) [.ret (.tup [(.bi (.xmk "InUse" ["name", "kind"]) [(.var 1), (.var 2)]), (.lst [(.var 1), (.var 2)])])] [],
  .ifs (.cmp .Eq (.var 0) (.lit (.int 4))) [.ret (.tup [(.bi (.xmk "Far" ["name", "kind"]) [(.var 1), (.var 2)]), (.lst [(.var 1), (.var 2)])])] [],
  .ifs (.cmp .Eq (.var 0) (.lit (.int 5))) [.ret (.tup [(.bi (.xmk "Clash" ["name", "kind"]) [(.var 1), (.var 2)]), (.lst [(.var 1), (.var 2)])])] [],
  .ifs (.cmp .Eq (.var 0) (.lit (.int 6))) [.ret (.tup [(.bi (.xmk "Vouched" ["name", "voucher"]) [(.var 1), (.var 2)]), (.lst [(.var 1), (.var 2)])])] [],
  .ifs (.cmp .Eq (.var 0) (.lit (.int 7))) [.ret (.tup [(.bi (.xmk "NotVouched" ["name", "voucher"]) [(.var 1), (.var 2)]), (.lst [(.var 1), (.var 2)])])] [],
  .ret (.call 447 [(.var 0), (.var 1)] [])]⟩
def F_law_by_places : Fn := ⟨3, 6, [.asg (.nm 3) (.lst [(.bi (.xmk "NotJoined" ["end", "start"]) [(.var 1), (.var 2)]), (.bi (.xmk "Taken" ["name", "kind"]) [(.var 1), (.var 2)]), (.bi (.xmk "NoSuch" ["name", "kind"]) [(.var 1), (.var 2)]), (.bi (.xmk "InUse" ["name", "kind"]) [(.var 1), (.var 2)]), (.bi (.xmk "Far" ["name", "kind"]) [(.var 1), (.var 2)])]),
  .asg (.nm 3) (.bin .Add (.var 3) (.lst [(.bi (.xmk "Clash" ["name", "kind"]) [(.var 1), (.var 2)]), (.bi (.xmk "Vouched" ["name", "voucher"]) [(.var 1), (.var 2)]), (.bi (.xmk "NotVouched" ["name", "voucher"]) [(.var 1), (.var 2)])])),
  .asg (.nm 4) (.lst [(.bi (.xmk "NoBottom" ["top"]) [(.var 1)]), (.bi (.xmk "NoTelling" ["name"]) [(.var 1)]), (.bi (.xmk "NoTie" ["name"]) [(.var 1)]), (.bi (.xmk "BadName" ["name"]) [(.var 1)]), (.bi (.xmk "Full" ["kind"]) [(.var 1)]), (.bi (.xmk "Flat" ["a"]) [(.var 1)]), (.bi (.xmk "BadWeight" ["weight"]) [(.var 1)])]),
  .asg (.nm 4) (.bin .Add (.var 4) (.lst [(.bi (.xmk "SameScale" ["name"]) [(.var 1)]), (.bi (.xmk "NotSheer" ["part"]) [(.var 1)]), (.bi (.xmk "NoText" ["row"]) [(.var 1)]), (.bi (.xmk "NoBook" ["name"]) [(.var 1)])])),
  .asg (.nm 5) (.lst [(.bi (.xmk "NoLevel" []) [(.lit (.str "words"))]), (.bi (.xmk "NothingDone" []) [(.lit (.str "words"))]), (.bi (.xmk "NoLine" []) [(.lit (.str "words"))])]),
  .ifs (.cmp .Lt (.var 0) (.lit (.int 8))) [.ret (.tup [(.idx (.var 3) (.var 0)), (.lst [(.var 1), (.var 2)])])] [],
  .ifs (.cmp .Lt (.var 0) (.lit (.int 19))) [.ret (.tup [(.idx (.var 4) (.bin .Sub (.var 0) (.lit (.int 8)))), (.lst [(.var 1)])])] [],
  .ret (.tup [(.idx (.var 5) (.bin .Sub (.var 0) (.lit (.int 19)))), (.lst [])])]⟩
def F_law_fields : Fn := ⟨2, 2, [.ifs (.cmp .Eq (.var 1) (.lit (.int 0))) [.ret (.lst [(.bi (.xatA "start") [(.var 0)]), (.bi (.xatA "end") [(.var 0)])])] [],
  .ifs (.cmp .Lt (.var 1) (.lit (.int 6))) [.ret (.lst [(.bi (.xatA "kind") [(.var 0)]), (.bi (.xatA "name") [(.var 0)])])] [],
  .ifs (.cmp .Lt (.var 1) (.lit (.int 8))) [.ret (.lst [(.bi (.xatA "voucher") [(.var 0)]), (.bi (.xatA "name") [(.var 0)])])] [],
  .ifs (.cmp .Eq (.var 1) (.lit (.int 8))) [.ret (.lst [(.bi (.xatA "top") [(.var 0)])])] [],
  .ifs (.cmp .In (.var 1) (.tup [(.lit (.int 9)), (.lit (.int 10)), (.lit (.int 11)), (.lit (.int 15)), (.lit (.int 18))])) [.ret (.lst [(.bi (.xatA "name") [(.var 0)])])] [],
  .ifs (.cmp .Eq (.var 1) (.lit (.int 12))) [.ret (.lst [(.bi (.xatA "kind") [(.var 0)])])] [],
  .ifs (.cmp .Eq (.var 1) (.lit (.int 13))) [.ret (.lst [(.bi (.xatA "a") [(.var 0)])])] [],
  .ifs (.cmp .Eq (.var 1) (.lit (.int 14))) [.ret (.lst [(.bi (.xatA "weight") [(.var 0)])])] [],
  .ifs (.cmp .Eq (.var 1) (.lit (.int 16))) [.ret (.lst [(.bi (.xatA "part") [(.var 0)])])] [],
  .ifs (.cmp .Eq (.var 1) (.lit (.int 17))) [.ret (.lst [(.bi (.xatA "row") [(.var 0)])])] [],
  .ret (.lst [])]⟩
def F_law_50 : Fn := ⟨1, 8, [.asg (.nm 1) (.call 4 [(.var 0)] []),
  .fr [2] .one .range [(.lit (.int 6))] [.asg (.nm 3) (.call 6 [(.var 1), (.lit (.int 22))] []),
  .asg (.tup [4, 5]) (.tup [(.call 143 [(.var 1)] []), (.call 143 [(.var 1)] [])]),
  .asg (.tup [6, 7]) (.call 449 [(.var 3), (.var 4), (.var 5)] []),
  .ifs (.band (.cmp .Lt (.var 3) (.lit (.int 19))) (.cmp .Eq (.call 6 [(.var 1), (.lit (.int 2))] []) (.lit (.int 1)))) [.asg (.tup [6, 7]) (.call 448 [(.var 3), (.var 4), (.var 5)] [])] [],
  .ifs (.bor (.nt (.call 77 [(.var 6)] [])) (.cmp .NotEq (.call 144 [(.var 6)] []) (.lst [(.var 3)]))) [.ret (.lit (.bl false))] [],
  .ifs (.nt (.call 7 [(.call 450 [(.var 6), (.var 3)] []), (.var 7)] [])) [.ret (.lit (.bl false))] []],
  .ret (.lit (.bl true))]⟩
end Sb
namespace Sb
def tbl : Nat → Fn
  | 4 => F_law_start
  | 6 => F_law_draw
  | 5 => F_law_mix
  | 7 => F_law_same
  | 77 => F_law_alone
  | 143 => F_law_some_thing
  | 447 => F_law_single
  | 448 => F_law_by_names
  | 449 => F_law_by_places
  | 450 => F_law_fields
  | 144 => F_law_mine
  | 451 => F_law_50
  | _ => ⟨0, 0, []⟩
end Sb
namespace Sb
open PySem PySem.Spec PyProof.Rows L2
theorem cxN_false {P : Program} {w : World} {outer : List PySem.Env} {H : Hp} {s : Shared} {e : Value} {s' : Shared} (h : L2N.CX P w outer H s (fun _ _ _ => False) e s') : False := by
  obtain ⟨_, _, _, _, _, _, _, _, _, _, _, _, z⟩ := h
  exact z.elim
/-- the order -/
theorem leTel_trans (a b c : Int × Str) (h1 : leTel a b = true) (h2 : leTel b c = true) : leTel a c = true := by
  unfold leTel at *
  simp only [Bool.or_eq_true, Bool.and_eq_true, decide_eq_true_eq] at *
  rcases h1 with h1 | ⟨h1, h1'⟩ <;> rcases h2 with h2 | ⟨h2, h2'⟩
  · exact .inl (by omega)
  · exact .inl (by omega)
  · exact .inl (by omega)
  · exact .inr ⟨by omega, leStr_trans _ _ _ h1' h2'⟩
theorem leTel_total (a b : Int × Str) : (leTel a b || leTel b a) = true := by
  unfold leTel
  simp only [Bool.or_eq_true, Bool.and_eq_true, decide_eq_true_eq]
  have := leStr_total a.2 b.2
  rw [Bool.or_eq_true] at this
  rcases Int.lt_trichotomy a.1 b.1 with z | z | z
  · exact .inr (.inl z)
  · rcases this with t | t
    · exact .inl (.inr ⟨z, t⟩)
    · exact .inr (.inr ⟨z.symm, t⟩)
  · exact .inl (.inl z)
theorem leTel_anti {a b : Int × Str} (h1 : leTel a b = true) (h2 : leTel b a = true) : a = b := by
  unfold leTel at *
  simp only [Bool.or_eq_true, Bool.and_eq_true, decide_eq_true_eq] at *
  rcases h1 with h1 | ⟨h1, h1'⟩ <;> rcases h2 with h2 | ⟨h2, h2'⟩
  · omega
  · omega
  · omega
  · exact Prod.ext h1 (leStr_anti h1' h2')
end Sb
namespace Sb
open PySem PySem.Spec PyProof.Rows L2
/-- nothing but tables and locked lists -/
def OnlyT (H : Hp) : Prop := ∀ b, H b = none ∨ (∃ ps, H b = some (.tbl ps)) ∨ ∃ o xs, H b = some (.frz o (.lst xs))
section
variable {P : Program} {w : World} {K : PySem.W.Frag} {mg mb : Str → Option Value} {CX : CXT} {k : Nat} {fa a : Addr} {cs : List (Addr × Addr)} {fd : FuncData} {x : Str} {sp : Sp} {s₁ : Shared} {vs : List Value} {ns : List Int}
theorem law_callT (KX : K.In s₁.heap) (hns : s₁.heap.Ns mainGlobals mg) (hb : s₁.heap.Ns builtinsNs mb) (hbb : ∀ x : Str, x ≠ "__name__" → mb x = bootBuiltins x) (hlim : s₁.heap.NoLimit) (hg : s₁.gens = #[])
    (hT : ∀ p ∈ cs, s₁.heap.get? p.2 = some (PySem.W.tabObj #[])) (nT : ∀ p ∈ cs, K.lookup p.2 = none) (cd : ∀ p ∈ cs, PySem.W.CodeHd s₁.heap p.1 p.2)
    (hbm : ∃ (bm : Addr) (ob : Obj), mg "__builtins__" = some (.ref bm) ∧ bm ≠ builtinsNs ∧ s₁.heap.get? bm = some ob ∧ ob.cls = .type "module" ∧ ob.dict = some builtinsNs ∧ ob.data = .plain)
    (ha : s₁.heap.get? a = some { cls := .type "list", data := .seq vs.toArray }) (hi : IntsAre vs ns) (hl : ns.length ≤ sizeLine) (hr : Room k callerA)
    (F : ∀ base : Heap, K.In base → base.Ns mainGlobals mg → (∀ p ∈ cs, LamX.TabB base mg p.1 p.2) → FnOk P w K mg base CX k fa fd [x] sp) (hbind : ∀ (s : Shared) (u : Value), BindsTo s fd ⟨[u], []⟩ [(x, u)])
    (hsp : ∀ H : Hp, OnlyT H → (∀ p ∈ cs, H p.2 = some (.tbl #[])) → SqL K H a (ns.map V.int) → sp [.ref a] H (fun v _ => v = .bl true) fun _ _ _ => False)
    (hCX : ∀ H e s', CX [] H s₁ (fun _ _ _ => False) e s' → False) :
    codeAny (model P w) callerA (.call (.ref fa) ⟨[.ref a], []⟩) (fun r s' => r = .ok (.ret (.bool true)) ∧ OldK s₁.heap s'.heap ∧ s'.os = s₁.os ∧ AllBare s'.gens) s₁ := by
  have rv := vals_ints hi
  have lenV := hi.length
  obtain ⟨T, eT⟩ : ∃ T, T = cs.map (·.2) := ⟨_, rfl⟩
  have memT : ∀ p ∈ cs, p.2 ∈ T := fun p hp => by rw [eT]; exact List.mem_map.mpr ⟨p, hp, rfl⟩
  have ofT : ∀ b ∈ T, ∃ p ∈ cs, p.2 = b := fun b hb => by
    rw [eT] at hb
    exact List.mem_map.mp hb
  have isT : ∀ b ∈ T, s₁.heap.get? b = some (PySem.W.tabObj #[]) := fun b hb => by
    obtain ⟨p, hp, rfl⟩ := ofT b hb
    exact hT p hp
  have aT : a ∉ T := fun z => by
    have q := isT a z
    rw [ha] at q
    cases q
  obtain ⟨H, hH⟩ : ∃ H : Hp, H = fun b => if b ∈ T then some (.tbl #[]) else if b = a ∧ K.lookup a = none then some (.frz { cls := .type "list", data := .seq vs.toArray } (.lst (ns.map V.int))) else none := ⟨_, rfl⟩
  have hHT : ∀ b ∈ T, H b = some (.tbl #[]) := fun b hb => by rw [hH]; exact if_pos hb
  have hHa : K.lookup a = none → H a = some (.frz { cls := .type "list", data := .seq vs.toArray } (.lst (ns.map V.int))) := fun e => by
    rw [hH]
    show (if a ∈ T then _ else _) = _
    rw [if_neg aT, if_pos ⟨rfl, e⟩]
  have hHn : ∀ b, b ∉ T → ¬ (b = a ∧ K.lookup a = none) → H b = none := fun b h1 h2 => by
    rw [hH]
    show (if b ∈ T then _ else _) = _
    rw [if_neg h1, if_neg h2]
  have hO : OnlyT H := fun b => by
    by_cases h1 : b ∈ T
    · exact .inr (.inl ⟨_, hHT b h1⟩)
    · by_cases h2 : b = a ∧ K.lookup a = none
      · exact .inr (.inr ⟨_, _, by rw [h2.1]; exact hHa h2.2⟩)
      · exact .inl (hHn b h1 h2)
  have hok : HOk P w H s₁.heap := fun b u e => by
    by_cases h1 : b ∈ T
    · rw [hHT b h1] at e
      cases e
      exact isT b h1
    · by_cases h2 : b = a ∧ K.lookup a = none
      · obtain ⟨rfl, h2⟩ := h2
        rw [hHa h2] at e
        cases e
        exact ⟨ha, by rw [List.length_map]; exact hl, vs, _, rv, ha⟩
      · rw [hHn b h1 h2] at e
        cases e
  have hS : SqL K H a (ns.map V.int) := by
    cases hk : K.lookup a with
    | none => exact .inl (.inr ⟨_, hHa hk⟩)
    | some o =>
      have e := KX a o hk
      rw [ha] at e
      cases e
      exact .inr ⟨_, vs.toArray, _, hk, rfl, rfl, rfl, by rw [List.size_toArray, lenV]; exact hl, by simpa using rv⟩
  have free : ∀ {b : Addr} {o : Obj}, s₁.heap.get? b = some o → (∀ vs n, o.data ≠ .seq vs n) → o.data ≠ .fields #[] → H b = none := fun {b o} e n1 n2 => by
    refine hHn b (fun z => ?_) fun z => ?_
    · rw [isT b z] at e
      cases e
      exact n2 rfl
    · rw [z.1, ha] at e
      cases e
      exact n1 _ _ rfl
  have freeD : ∀ {b : Addr} {o : Obj} {es : Array DictEntry} {ep : Nat}, s₁.heap.get? b = some o → o.data = .dict es ep → H b = none := fun {b o es ep} e d => by
    refine free e (fun vs n z => ?_) fun z => ?_
    · rw [d] at z; cases z
    · rw [d] at z; cases z
  have nsK : ∀ {b : Addr} {m : Str → Option Value}, s₁.heap.Ns b m → (hidT s₁.heap H).Ns b m := fun {b m} ⟨o, es, ep, e, d, r⟩ => ⟨o, es, ep, hidT_get e (freeD e d), d, r⟩
  have hKb : K.In (hidT s₁.heap H) := fun b o e => hidT_get (KX b o e) (hHn b (fun z => by
    obtain ⟨p, hp, rfl⟩ := ofT b z
    rw [nT p hp] at e
    cases e) fun z => by
    rw [z.1, z.2] at e
    cases e)
  have hM : L2.Mod K mg (hidT s₁.heap H) := ⟨hKb, nsK hns, ⟨mb, nsK hb, hbb⟩, let ⟨mc, h1, h2⟩ := hlim; ⟨mc, nsK h1, h2⟩⟩
  have TB : ∀ p ∈ cs, LamX.TabB (hidT s₁.heap H) mg p.1 p.2 := fun p hp => by
    have hTp := hT p hp
    obtain ⟨go, ges, gep, ge, gd, _⟩ := id hns
    refine ⟨?_, ?_, fun z => ?_⟩
    · obtain ⟨o, us, file, tf, flags, tg, inF, text, tt, c1, c2, c3, c4, c5⟩ := cd p hp
      refine ⟨o, us, file, tf, flags, tg, inF, text, tt, hidT_get c1 (free c1 (fun vs n z => ?_) fun z => ?_), c2, c3, c4, c5⟩
      · rw [c3] at z; cases z
      · rw [c3] at z
        cases z
        simp at c4
    · obtain ⟨bm, ob, b1, b2, b3, b4, b5, b6⟩ := hbm
      refine ⟨bm, ob, b1, b2, fun q => ?_, fun q => ?_, hidT_get b3 (free b3 (fun vs n z => ?_) fun z => ?_), b4, b5, b6⟩
      · rw [q, ge] at b3
        cases b3
        rw [gd] at b6
        cases b6
      · rw [q, hTp] at b3
        cases b3
        cases b6
      · rw [b6] at z; cases z
      · rw [b6] at z; cases z
    · rw [z, hTp] at ge
      cases ge
      cases gd
  have e0 : Env0 P w K mg (hidT s₁.heap H) callerA [] s₁ H := ⟨rfl, hM, fun b o e => of_hidT e, Nat.le_of_eq (hidT_size _ _), trivial, fun b hb => absurd (show b ∈ ([] : List Addr) from hb) (by simp), hok, .of_eq hg⟩
  refine codeAny_mono ((F _ hKb (nsK hns) TB).run callerA [] s₁ H ⟨[.ref a], []⟩ [.ref a] [.ref a] _ _ hr e0 (hbind s₁ (.ref a)) (.cons rfl .nil) (hsp H hO (fun p hp => hHT _ (memT p hp)) hS)) fun r s' h => ?_
  cases r with
  | error e => exact (hCX H e s' h).elim
  | ok fl =>
    cases fl with
    | next => exact False.elim h
    | brk => exact False.elim h
    | cont => exact False.elim h
    | ret u =>
      obtain ⟨v, H', os, bare, un, hok', r', q⟩ := h
      have q' : v = .bl true := q
      subst q'
      obtain rfl : u = Value.bool true := r'
      have same : ∀ b o, b ∉ T → s₁.heap.get? b = some o → s'.heap.get? b = some o := fun b o nb e => by
        rcases hO b with z | ⟨ps, z⟩ | ⟨ob, xs, z⟩
        · exact un.keep b o e z (fun y => nomatch (show b ∈ ([] : List Addr) from y)) (fun y => nomatch y)
        · exfalso
          by_cases h2 : b = a ∧ K.lookup a = none
          · rw [h2.1, hHa h2.2] at z
            cases z
          · rw [hHn b nb h2] at z
            cases z
        · obtain ⟨e1, _⟩ := hok b _ z
          obtain ⟨e2, _⟩ := hok' b _ (un.frzs b ob _ z)
          rw [e] at e1
          cases e1
          exact e2
      have grown : ∀ p ∈ cs, ∃ more : Array Value, s'.heap.get? p.2 = some (PySem.W.tabObj more) := fun p hp => by
        obtain ⟨more, z⟩ := un.tbls p.2 #[] (hHT _ (memT p hp))
        exact ⟨_, hok' p.2 _ z⟩
      refine ⟨rfl, ⟨fun b o e => ?_, fun b o e => ?_⟩, os, bare⟩
      · by_cases nb : b ∈ T
        · obtain ⟨p, hp, rfl⟩ := ofT b nb
          obtain ⟨more, hm⟩ := grown p hp
          rw [hT p hp] at e
          cases e
          exact .inr (.inl ⟨((cd p hp).tab (hT p hp)).isCodeTable, rfl, #[], more, rfl, by rw [Array.empty_append]; exact hm⟩)
        · exact .inl (same b o nb e)
      · by_cases nb : b ∈ T
        · obtain ⟨p, hp, rfl⟩ := ofT b nb
          obtain ⟨more, hm⟩ := grown p hp
          exact ⟨_, hm⟩
        · exact ⟨o, same b o nb e⟩
end
/-- a law's end: F gives the written part, the tables and the law's promise -/
theorem walk_ofT {l : PySem.W.OpenLaw} {n k : Nat} {q : Program} {loose : List Str} {XP : (Str → Option Value) → Heap → Prop} {YP : World → Heap → Prop} {d : DefRec} {x : Str}
    (hn : l.most = some n) (hn2 : n ≤ sizeLine) (hdf : d.params.defaults = []) (hr : Room k callerA)
    (F : ∀ (w : World) (mg mb : Str → Option Value) (mean : ExcName → Option Value) (fa : Addr) (h : Heap), YP w h → PyProof.Rows.Top q (PySem.W.looseW q loose) mean mg mb h → mg d.name = some (.ref fa) →
      ∃ (K : PySem.W.Frag) (fd : FuncData) (sp : Sp) (cs : List (Addr × Addr)), K.In h ∧ (∀ p ∈ cs, h.get? p.2 = some (PySem.W.tabObj #[])) ∧ (∀ p ∈ cs, K.lookup p.2 = none) ∧ (∀ p ∈ cs, PySem.W.CodeHd h p.1 p.2) ∧ (∀ (s : Shared) (u : Value), BindsTo s fd ⟨[u], []⟩ [(x, u)]) ∧
        (∀ (H : Hp) (a : Addr) (ns : List Int), ns.length ≤ n → OnlyT H → (∀ p ∈ cs, H p.2 = some (.tbl #[])) → SqL K H a (ns.map V.int) → sp [.ref a] H (fun v _ => v = .bl true) fun _ _ _ => False) ∧
        ∀ base : Heap, K.In base → base.Ns mainGlobals mg → (∀ p ∈ cs, LamX.TabB base mg p.1 p.2) → FnOk l.prog w K mg base (L2N.CX l.prog w) k fa fd [x] sp) :
    PySem.W.WalkO q loose XP YP l.row.toRowW d [] (fun f vs => PySem.call f vs) := by
  refine Att.attach_call hn hdf fun w s₀ s₁ mg mb fa o pm cd doc a vs ns G Y ho hd hcd hmg hobj hints hlen hg => ?_
  obtain ⟨K, fd, sp, cs, KX, hT, nT, cd', hb, hsp, hF⟩ := F w mg mb _ fa _ Y G.T hmg
  exact law_callT KX G.T.g G.T.b G.T.builtins G.T.nolimit hg hT nT cd' G.T.bmain hobj hints (Nat.le_trans hlen hn2) hr hF hb (fun H hO hH hS => hsp H a ns hlen hO hH hS) fun H e s' => cx_false
/-- the tables stand apart and are not of the written part; the names' tables are there -/
theorem tabsOf_mem {K : PySem.W.Frag} {p : Addr × Str} (h : p ∈ tabsOf K) : ∃ x ∈ lamNames, ∃ c, PySem.W.tabIn K x = some (c, p.1) ∧ p.2 = x ++ ".<locals>." ++ "<lambda>" := by
  obtain ⟨x, hx, e⟩ := List.mem_filterMap.mp h
  obtain ⟨q, e1, e2⟩ := Option.map_eq_some_iff.mp e
  subst e2
  exact ⟨x, hx, q.1, e1, rfl⟩
theorem tabCs_tab {K : PySem.W.Frag} {p : Addr × Addr} (h : p ∈ tabCs K) : ∃ x ∈ lamNames, PySem.W.tabIn K x = some p := List.mem_filterMap.mp h
theorem tabCs_mem {K : PySem.W.Frag} {x : Str} {p : Addr × Addr} (hx : x ∈ lamNames) (e : PySem.W.tabIn K x = some p) : p ∈ tabCs K ∧ (p.2, x ++ ".<locals>." ++ "<lambda>") ∈ tabsOf K :=
  ⟨List.mem_filterMap.mpr ⟨x, hx, e⟩, List.mem_filterMap.mpr ⟨x, hx, by rw [e]; rfl⟩⟩
section
variable {K : PySem.W.Frag} {xs : List Str}
theorem tabB_parts (b : tabB K xs = true) : ((tabsOf K).map (·.1)).Nodup ∧ (∀ p ∈ tabsOf K, K.lookup p.1 = none) ∧ (∀ x ∈ xs, ∃ p, PySem.W.tabIn K x = some p) ∧ ∀ x ∈ lamNames, x ∈ xs ∨ PySem.W.tabIn K x = none := by
  unfold tabB at b
  simp only [Bool.and_eq_true, decide_eq_true_eq, List.all_eq_true] at b
  obtain ⟨⟨⟨b1, b2⟩, b3⟩, b4⟩ := b
  refine ⟨b1, fun p hp => Option.isNone_iff_eq_none.mp (b2 p hp), fun x hx => Option.isSome_iff_exists.mp (b3 x hx), fun x hx => ?_⟩
  rcases Bool.or_eq_true_iff.mp (b4 x hx) with z | z
  · exact .inl (List.contains_iff_mem.mp z)
  · exact .inr (Option.isNone_iff_eq_none.mp z)
theorem tabB_none (b : tabB K xs = true) : ∀ p ∈ tabCs K, K.lookup p.2 = none := fun p hp => by
  obtain ⟨x, hx, e⟩ := tabCs_tab hp
  exact (tabB_parts b).2.1 _ (tabCs_mem hx e).2
end
theorem script_rvT {P : Program} {w : World} {K : PySem.W.Frag} {H : Hp} {a : Addr} {ns : List Int} (hO : OnlyT H) (hS : SqL K H a (ns.map V.int)) : RV ⟨K, [], P, w⟩ [] H (.cl (ns.map PV.int)) (.ref a) := by
  rcases hS with (h | ⟨o, h⟩) | h
  · rcases hO a with z | ⟨ps, z⟩ | ⟨o, xs, z⟩
    · rw [z] at h; cases h
    · rw [z] at h; cases h
    · rw [z] at h; cases h
  · exact ⟨a, _, rfl, .inl ⟨⟨o, h⟩, by simp⟩, ints_rv ns⟩
  · exact ⟨a, _, rfl, .inr h, ints_rv ns⟩
theorem law_endT {P : Program} {w : World} {K : PySem.W.Frag} {mg : Str → Option Value} {C : Calls} {fi : Nat} (hl : ∀ ns : List Int, ns.length ≤ 63 → ∃ h, C fi [.cl (ns.map PV.int)] [] = .ok (.bl true) h) (H : Hp) (a : Addr) (ns : List Int) (hn : ns.length ≤ 63) (hO : OnlyT H) (hT : ∀ p ∈ tabCs K, H p.2 = some (.tbl #[])) (hS : SqL K H a (ns.map V.int)) :
    spF ⟨K, [], P, w⟩ mg C fi 1 [.ref a] H (fun v _ => v = .bl true) fun _ _ _ => False := by
  obtain ⟨h, e⟩ := hl ns hn
  refine ⟨rfl, [], [], [.cl (ns.map PV.int)], ⟨rfl, List.nodup_nil, fun n o e => (by simp at e), fun p hp => ?_⟩, RVs.cons (script_rvT hO hS) RVs.nil, ?_⟩
  · obtain ⟨x, hx, c, e1, e2⟩ := tabsOf_mem hp
    exact LamX.TabS.nil (hT _ (tabCs_mem hx e1).1)
  · rw [e]
    intro φ' H' b x s r
    exact r
end Sb
namespace Sb
open PySem PySem.Spec PyProof.Rows L2
section
variable {K : ZZ} {φ : List Addr} {H H' : Hp}
/-- nothing but tables may have changed -/
abbrev Grow (H H' : Hp) : Prop := ∀ a o, (∀ ps, o ≠ .tbl ps) → H a = some o → H' a = some o
theorem Grow.kp (g : Grow H H') : Kp φ φ H H' := ⟨fun _ _ q => q, fun a o f e n => ⟨g a o (fix_ntbl f) e, n⟩⟩
theorem Grow.ext (g : Grow H H') : Ext φ φ H H' := ⟨⟨[], by simp⟩, fun a o e _ nt => g a o nt e, fun _ h n => absurd h n⟩
end
end Sb
namespace Sb
open PySem PySem.Spec PyProof.Rows L2
/-- the class BookError, as its name's attribute __init__ is read -/
structure BkI (K : PySem.W.Frag) (mg : Str → Option Value) (b : Str) : Prop where
  gl : mg b = some (.ref (He.ga K b))
  sp : PySem.W.specialIn K (.ref (He.ga K b)) "__getattribute__" = some (some (.builtin "type.__getattribute__"))
  rd : PySem.W.readsIn K (He.ga K b) (.type "type") = true
  fd : PySem.W.findCls K (.ref (He.ga K b)) (.type "type") "__init__" = some (.val (.builtin "ValueError.__init__"))
section
variable {X : Cx} {o e : Expr} {es : List Expr} {to te : TE} {ta : TA} {f b : Str} {p p' p1 p2 pos : Pos}
theorem zax {pl : Sem Bool} (B : BkI X.K X.mg b) (ha : PA X (e :: es) ta) (hg : Gl X b := by rfl) (hdb : (b == ("__debug__" : Str)) = false := by decide)
    (hc : eval (.Call (.Attribute (.Name b p1) "__init__" p2) (e :: es) [] pos) X.env = (do
      let ov ← eval (.Name b p1) X.env
      standAt p2.atName
      let (f, first) ← holding [ov] (getMethod ov "__init__" pl)
      callWith pos f first (backTo pos (starEach (e :: es) X.env)) (backToKw pos (keywordEach [] X.env))) := by rfl)
    (he : starEach (e :: es) X.env = (false, eval e X.env) :: starEach es X.env := by rfl) (hpl : (backTo pos (starEach es X.env)).any (·.1) = false := by rfl) :
    PE X (.Call (.Attribute (.Name b p1) "__init__" p2) (e :: es) [] pos) (tVeI X.K ta) := by
  refine ⟨fun pins s σ H Q I h => ?_⟩
  refine PySem.W.methodCall_KW (ld_glob I hg B.gl ?_ hdb) hc
  refine PySem.W.method_cls I.kIn B.sp (PySem.W.cls_value I.kIn B.rd B.fd (by decide +kernel) ?_)
  show wpAny _ _ (callWith pos (Value.builtin "ValueError.__init__") [] (backTo pos (starEach (e :: es) X.env)) []) _ _ _
  refine PyProof.Rows.callWith_method1 (thn (ha.run pos pins _ σ H _ (I.tok _) h) fun us s1 ⟨vs, H1, I1, r1, a, C, ws, ev, hl, T, ea, q⟩ => ?_) he hpl
  subst ev
  cases r1 with
  | @cons _ u0 _ ur ra rw' =>
    obtain rfl : u0 = Value.ref a := ra
    have hlen : ur.length ≤ sizeLine := by
      rw [← Paired.length rw', sizeLine_eq]
      omega
    exact oinit_ok T I1 ea hlen fun s' J => ⟨.non, H1, J, rfl, q⟩
end
/-- what an own __init__ keeps -/
def spI (C : Addr) (fs : List Str) : Sp := fun vs H Q _ => ∃ (a : Addr) (ys : List V), vs = .ref a :: ys ∧ ys.length = fs.length ∧ H a = some (exo a C none) ∧ ∀ d, H d = none → d ≠ a → Q .non (upd (upd H d (exd d (fs.zip ys).reverse)) a (exo a C (some d)))
theorem upd_swap3 {H : Hp} {a d : Addr} {A B E : HO} (h : d ≠ a) : upd (upd (upd H d A) a E) d B = upd (upd H d B) a E := by
  funext b
  by_cases h1 : b = d
  · rw [h1, upd_same, upd_ne h, upd_same]
  · by_cases h2 : b = a
    · rw [h2, upd_ne (Ne.symm h), upd_same, upd_same]
    · rw [upd_ne h1, upd_ne h2, upd_ne h1, upd_ne h2, upd_ne h1]
abbrev tI0 (K : PySem.W.Frag) (txt : Str) : TS := tDrop (tVeI K (tCons (tVar 0) (tCons (tC (.str txt)) tNil)))
section
variable {P : Program} {w : World} {K : PySem.W.Frag} {mg : Str → Option Value} {base : Heap} {b qual txt f1 f2 q1 q2 : Str} {params : Arguments} {body : List Stmt} {scope : Scope} {fa C : Addr} {fd : FuncData}
/-- __init__(self, q1): BookError.__init__(self, text); self.f1 = q1 -/
theorem init1 (F : FunD K "__init__" qual params body scope [] [] fa fd) (S : FnScope ["self", q1] ["self", q1] scope) (T : OexC K C) (hn : PySem.W.findIn K (.ref C) f1 = some none)
    (hb : ∀ (cdv : Value) (A : Around) (outer : List PySem.Env) (s : Shared) (H : Hp) (E : XK), PSs (cxOf (L2N.CX P w) P w K mg base ["self", q1] qual scope fa cdv A outer s H E) body (tSeq (tI0 K txt) (tSeq (tOst K f1 (tVar 0) (tVar 1)) tNext))) :
    FnOk P w K mg base (L2N.CX P w) (0 + 1) fa fd ["self", q1] (spI C [f1]) := by
  refine FunD.okC F S (fun vs H Q E h => ?_) fun cdv A outer s H vs Q E hcd hr h => ?_
  · obtain ⟨a, ys, rfl, hl, _⟩ := h
    simp [hl]
  · obtain ⟨a, ys, rfl, hl, ha, q⟩ := h
    obtain ⟨y, rfl⟩ : ∃ y, ys = [y] := by
      match ys, hl with
      | [y], _ => exact ⟨y, rfl⟩
    refine ⟨_, hb cdv A outer s H E, ?_⟩
    refine ⟨.ref a, rfl, a, C, [.str txt], rfl, by simp, T, ha, ?_⟩
    refine ⟨y, rfl, .ref a, rfl, a, C, rfl, T, hn, .inl ⟨ha, fun dx n ne => ?_⟩⟩
    exact q dx n ne
theorem init2 (F : FunD K "__init__" qual params body scope [] [] fa fd) (S : FnScope ["self", q1, q2] ["self", q1, q2] scope) (T : OexC K C) (hn : PySem.W.findIn K (.ref C) f1 = some none) (hn2 : PySem.W.findIn K (.ref C) f2 = some none)
    (hb : ∀ (cdv : Value) (A : Around) (outer : List PySem.Env) (s : Shared) (H : Hp) (E : XK), PSs (cxOf (L2N.CX P w) P w K mg base ["self", q1, q2] qual scope fa cdv A outer s H E) body (tSeq (tI0 K txt) (tSeq (tOst K f1 (tVar 0) (tVar 1)) (tSeq (tOst K f2 (tVar 0) (tVar 2)) tNext)))) :
    FnOk P w K mg base (L2N.CX P w) (0 + 1) fa fd ["self", q1, q2] (spI C [f1, f2]) := by
  refine FunD.okC F S (fun vs H Q E h => ?_) fun cdv A outer s H vs Q E hcd hr h => ?_
  · obtain ⟨a, ys, rfl, hl, _⟩ := h
    simp [hl]
  · obtain ⟨a, ys, rfl, hl, ha, q⟩ := h
    obtain ⟨y, z, rfl⟩ : ∃ y z, ys = [y, z] := by
      match ys, hl with
      | [y, z], _ => exact ⟨y, z, rfl⟩
    refine ⟨_, hb cdv A outer s H E, ?_⟩
    refine ⟨.ref a, rfl, a, C, [.str txt], rfl, by simp, T, ha, ?_⟩
    refine ⟨y, rfl, .ref a, rfl, a, C, rfl, T, hn, .inl ⟨ha, fun dx n ne => ?_⟩⟩
    refine ⟨z, rfl, .ref a, rfl, a, C, rfl, T, hn2, .inr ⟨dx, [(f1, y)], upd_same, by rw [upd_ne ne, upd_same], by simp, ?_⟩⟩
    have := q dx n ne
    rw [← upd_swap3 (A := exd dx [(f1, y)]) ne] at this
    exact this
end
/-- all that is known of a class x whose exceptions have the fields fs -/
structure XcI (P : Program) (w : World) (K : PySem.W.Frag) (mg : Str → Option Value) (base : Heap) (x : Str) (fs : List Str) : Prop where
  T : OexC K (He.ga K x)
  gl : mg x = some (.ref (He.ga K x))
  ini : ∃ (fI : Addr) (fd : FuncData) (ps : List Str), PySem.W.findIn K (.ref (He.ga K x)) "__init__" = some (some (.ref fI)) ∧ PySem.W.typeIn K (.ref fI) = some (.type "function") ∧ FnOk P w K mg base (L2N.CX P w) (0 + 1) fI fd ps (spI (He.ga K x) fs) ∧ Binds K fd ps []
theorem zip_rev {fs : List Str} : ∀ {ys : List V}, ys.length = fs.length → ((fs.zip ys).reverse.map (·.1)) = fs.reverse ∧ ((fs.zip ys).reverse.map (·.2)) = ys.reverse := by
  intro ys hl
  rw [List.map_reverse, List.map_reverse, List.map_fst_zip (by omega), List.map_snd_zip (by omega)]
  exact ⟨rfl, rfl⟩
theorem RVs.rev {K : ZZ} {φ : List Addr} {H : Hp} : ∀ {ps : List PV} {vs : List V}, RVs K φ H ps vs → RVs K φ H ps.reverse vs.reverse
  | [], vs, r => by
    have : vs = [] := r
    subst this
    exact rfl
  | p :: ps, vs, r => by
    obtain ⟨v, t, e, q, s⟩ := r
    subst e
    rw [List.reverse_cons, List.reverse_cons]
    exact (RVs.rev s).append (RVs.cons q RVs.nil)
theorem zar {K : PySem.W.Frag} {h : Heap} {mg : Str → Option Value} (X : K.In h) (G : h.Ns mainGlobals mg) {b : Str} (c : bkB K b = true) : BkI K mg b := by
  obtain ⟨c1, c⟩ := He.ba c
  obtain ⟨c2, c⟩ := He.ba c
  obtain ⟨c3, c4⟩ := He.ba c
  refine ⟨He.glo_ok X G c1, He.eqO_ok c2, c3, ?_⟩
  split at c4
  · rename_i n e
    rw [e, of_decide_eq_true c4]
  · cases c4
theorem oexB_ok {K : PySem.W.Frag} {C : Addr} (c : oexB K C = true) : OexC K C := by
  obtain ⟨c1, c⟩ := He.ba c
  obtain ⟨c2, c⟩ := He.ba c
  obtain ⟨c3, c⟩ := He.ba c
  obtain ⟨c4, c5⟩ := He.ba c
  refine ⟨?_, He.eqO_ok c2, of_decide_eq_true c3, of_decide_eq_true c4, c5⟩
  split at c1
  · rename_i dd cd sl ho
    split at c1
    · rename_i C' bm k0 k1 k2 k3 n k5 hm hs
      simp only [Bool.and_eq_true, beq_iff_eq, Bool.not_eq_true'] at c1
      obtain ⟨⟨⟨⟨rfl, rfl⟩, hdel⟩, hd⟩, hv⟩ := c1
      obtain ⟨nm, bs, mro, ns, qn, hdd, sn, sub, ab, col, del⟩ := cd
      dsimp only at hm hdel hd
      subst hm hdel hd
      have hsl : sl = #[k0, k1, k2, k3, some (.builtin "ValueError.__new__"), k5] := by
        obtain ⟨l⟩ := sl
        simp only at hs
        rw [hs]
      subst hsl
      exact ⟨nm, qn, ns, bs, bm, sn, sub, ab, col, dd, k0, k1, k2, k3, k5, ho, hv⟩
    · cases c1
  · cases c1
/-- the class x, its __init__, no attribute of the fields' names -/
theorem zb0 {K : PySem.W.Frag} {h : Heap} {mg : Str → Option Value} (X : K.In h) (G : h.Ns mainGlobals mg) {x : Str} {fs : List Str} (c : xcB K x fs = true) : OexC K (He.ga K x) ∧ mg x = some (.ref (He.ga K x)) ∧ PySem.W.findIn K (.ref (He.ga K x)) "__init__" = some (some (.ref (He.ma K (He.ga K x) "__init__"))) ∧ PySem.W.typeIn K (.ref (He.ma K (He.ga K x) "__init__")) = some (.type "function") ∧ ∀ f ∈ fs, PySem.W.findIn K (.ref (He.ga K x)) f = some none := by
  obtain ⟨c1, c⟩ := He.ba c
  obtain ⟨c2, c⟩ := He.ba c
  obtain ⟨c3, c⟩ := He.ba c
  obtain ⟨c4, c5⟩ := He.ba c
  exact ⟨oexB_ok c1, He.glo_ok X G c2, He.eqO_ok c3, of_decide_eq_true c4, fun f hf => He.eqO_ok (List.all_eq_true.mp c5 f hf)⟩
end Sb
namespace Sb
open PySem PySem.Spec PyProof.Rows L2
/-- what the head says of all classes of refusals -/
structure XkI (K : PySem.W.Frag) : Prop where
  c : ∀ x ∈ excAll, (PySem.W.clsIn K (He.ga K x)).isSome = true ∧ PySem.W.findIn K (.ref (He.ga K x)) "__getattribute__" = some (some (.builtin "BaseException.__getattribute__")) ∧ PySem.W.findIn K (.ref (He.ga K x)) "__getattr__" = some none ∧ PySem.W.subIn K (.ref (He.ga K x)) (.type "BaseException") = some true ∧
    PySem.W.findIn K (.ref (He.ga K x)) "__class__" = some (some (.builtin "object.__class__")) ∧ PySem.W.mroIn K (He.ga K x) (.type "object") = some true
  hn : PySem.W.specialIn K (.builtin "object.__class__") "__get__" = some (some (.builtin "getset_descriptor.__get__"))
  ht : PySem.W.takesIn K (.builtin "object.__class__") = some true
  kit : ∀ x ∈ excAll, ∀ c, (c ∈ excAll ∨ c = "BookError") → PySem.W.kitOne K (.ref (He.ga K x)) (.ref (He.ga K c)) = some (decide (x = c) || decide (c = "BookError"))
  kiv : ∀ x ∈ excAll, PySem.W.kitOne K (.ref (He.ga K x)) (.type "ValueError") = some true
section
variable {X : Cx} {W : XK}
theorem hot_mem {p : Addr × Obj} (h : p ∈ hotPn X) : p ∈ X.pn := by
  unfold hotPn at h
  split at h
  · cases h
  · exact List.mem_of_mem_take h
/-- isinstance of an exception's object -/
theorem isx_run {x c : Str} {b : Bool} {pins : List (Addr × Obj)} {σ : L2.St} {H : Hp} {s : Shared} {Q : VK} {a : Addr} {oe : Obj} {od : Option Obj} {u2 : Value} {w : V} (k : XkI X.K) (I : Inv X pins σ H s) (eb : isX x c = some b)
    (q2' : w = if c = "ValueError" then V.ty "ValueError" else .ref (He.ga X.K c)) (r2 : RelV w u2) (J : PySem.W.InstAt s.heap a oe (He.ga X.K x) od) (o : Q (.bl b) H) : wpAny (model X.prog X.w) X.A (PySem.call (.builtin "isinstance") [.ref a, u2]) (EP X pins σ Q) X.xe s := by
  unfold isX at eb
  split at eb
  · rename_i hx
    obtain ⟨hx, hcc⟩ := hx
    cases eb
    obtain ⟨k1, k2, k3, k4, k5, k6⟩ := k.c x hx
    have fin : ∀ (cv : Value), u2 = cv → PySem.W.kitOne X.K (.ref (He.ga X.K x)) cv = some (decide (x = c) || decide (c = "BookError") || decide (c = "ValueError")) → wpAny (model X.prog X.w) X.A (PySem.call (.builtin "isinstance") [.ref a, u2]) (EP X pins σ Q) X.xe s := fun cv ec hk => by
      rw [ec]
      exact PySem.W.kia_one (PySem.W.kitx_exc (ox := oe) (od := od) k1 k2 k3 k4 k5 k.hn k.ht k6) I.kIn J hk (fun z => nomatch z) fun tk => ⟨.bl _, H, I.kept (t' := tk) fun _ _ z => z, rfl, o⟩
    by_cases hv : c = "ValueError"
    · rw [if_pos hv] at q2'
      rw [q2'] at r2
      refine fin (.type "ValueError") r2 ?_
      rw [k.kiv x hx, hv]
      simp
    · rw [if_neg hv] at q2'
      rw [q2'] at r2
      refine fin (.ref (He.ga X.K c)) r2 ?_
      have hc2 : c ∈ excAll ∨ c = "BookError" := by
        rcases hcc with z | z | z
        · exact .inl z
        · exact .inr z
        · exact absurd z hv
      rw [k.kit x hx c hc2]
      simp [hv]
  · cases eb
/-- where an exception that was made stands -/
theorem exv_at {x : Str} {ns : List Str} {l : List PV} {φ : List Addr} {H : Hp} {h : Heap} {v : V} {Z : ZZ} (hok : HOk X.prog X.w H h) (r : RV Z φ H (.exv x ns l) v) : ∃ a oe od, v = .ref a ∧ PySem.W.InstAt h a oe (He.ga Z.K x) od := by
  obtain ⟨a, us, e, n, d, r⟩ := r
  rcases d with ⟨q, z⟩ | ⟨dd, fs, q, q2, n2, z1, z2⟩
  · obtain ⟨⟨oe, vs, ho, ⟨hz, hzd⟩, hd, _⟩, _, _⟩ := hok a _ q
    exact ⟨a, oe, none, e, ho, hz, by unfold PySem.W.notCls; rw [hd] <;> rfl, by rw [hzd]; trivial⟩
  · obtain ⟨t1, ho⟩ := exo_at hok q
    obtain ⟨mA, hns, _⟩ := exd_at hok q2
    obtain ⟨od, hod, _⟩ := lookIn_ns hns
    exact ⟨a, _, some od, e, ho, rfl, rfl, hod⟩
theorem zak (k : XkI X.K) : CallR X (.builtin "isinstance") (rCa (zOf X) X.mg W biIsx) := by
  intro pins s σ H vs us Q I rv hh
  obtain ⟨φ, h, ps, sm, r, o⟩ := hh
  unfold biIsx at o
  split at o
  · rename_i x ns l c
    obtain ⟨v, w, e, q, q2⟩ := r.two
    subst e
    split at o
    · rename_i b eb
      obtain ⟨a, oe, rfl, hp, hc, ⟨vs, hd⟩, hdd⟩ := q
      have q2' : w = if c = "ValueError" then V.ty "ValueError" else .ref (He.ga X.K c) := q2
      obtain ⟨hget, _⟩ := I.pin (a, oe) (List.mem_append_left _ (hot_mem hp))
      obtain ⟨u1, u2, rfl, r1, r2⟩ := vals2 rv
      obtain rfl : u1 = Value.ref a := r1
      have J : ∃ od, PySem.W.InstAt s.heap a oe (He.ga X.K x) od := by
        rcases hdd with ⟨hn, _⟩ | ⟨dd, fs, us', e1, e2, _⟩
        · refine ⟨none, hget, hc, by unfold PySem.W.notCls; rw [hd] <;> rfl, ?_⟩
          rw [hn]
          trivial
        · have hx2 : ObjOk X.prog X.w H s.heap dd (.xd fs) := I.hok dd _ e2
          obtain ⟨mA, hns, _⟩ := hx2
          obtain ⟨od, ho, _⟩ := lookIn_ns hns
          refine ⟨some od, hget, hc, by unfold PySem.W.notCls; rw [hd] <;> rfl, ?_⟩
          rw [e1]
          exact ho
      obtain ⟨od, J⟩ := J
      exact isx_run k I eb q2' r2 J (o.at sm rfl)
    · exact o.elim
  · rename_i x ns l c
    obtain ⟨v, w, e, q, q2⟩ := r.two
    subst e
    split at o
    · rename_i b eb
      have q2' : w = if c = "ValueError" then V.ty "ValueError" else .ref (He.ga X.K c) := q2
      obtain ⟨a, oe, od, rfl, J⟩ := exv_at (X := X) I.hok q
      obtain ⟨u1, u2, rfl, r1, r2⟩ := vals2 rv
      obtain rfl : u1 = Value.ref a := r1
      exact isx_run k I eb q2' r2 J (o.at sm rfl)
    · exact o.elim
  · exact o.elim
end
section
variable {X : Cx} {W : XK}
theorem bools_vals : ∀ {bs : List Bool} {us : List Value}, Vals (bs.map V.bl) us → us = bs.map Value.bool
  | [], us, r => by cases r; rfl
  | b :: bs, us, r => by
    cases r with
    | cons h t =>
      rw [bools_vals t]
      exact congrArg (· :: _) h
theorem bools_reads {h : Heap} : ∀ bs : List Bool, ReadsAll h (bs.map Value.bool) (bs.map PyData.bool) []
  | [] => .nil
  | b :: bs => .cons (.bool b) (bools_reads bs)
theorem mt_count_ok (hu : X.A.units + 66 < cLine) : MtR X "list.count" (rMt (zOf X) X.mg W mtCount) := by
  intro pins s σ H x xs v us Q I rx rs hh
  obtain ⟨φ, h, p, ps, sm, r, r2, o⟩ := hh
  unfold mtCount at o
  split at o
  · rename_i n b
    split at o
    · rename_i l e1
      split at o
      · rename_i bs e2
        obtain ⟨ad, vs, f1, g1, r1⟩ := sm.lst e1
        obtain ⟨b1, hx, q1⟩ := r
        rw [f1] at q1
        cases q1
        obtain ⟨w, e, q⟩ := r2.one
        subst e
        subst hx
        obtain rfl : v = Value.ref ad := rx
        have ew : w = .bl b := q
        subst ew
        have eu : us = [.bool b] := by
          cases rs with
          | cons h1 h2 =>
            cases h2
            exact congrArg (· :: []) h1
        subst eu
        rw [bools_rel r1 e2] at g1
        obtain ⟨its, rv, hl, hz⟩ := I.list (show SqL X.K H ad (bs.map V.bl) from .inl (.inl g1))
        have ei := bools_vals rv
        have pl : ∀ cs : List Bool, PyData.plainAll (cs.map PyData.bool) = true := fun cs => by
          induction cs with
          | nil => rfl
          | cons c cs ih => simpa [PyData.plainAll, PyData.plain] using ih
        refine PySem.SeqAt.count_list_data (vs := its.toArray) (xs := bs.map PyData.bool) (d := .bool b) hl.isList (by rw [ei]; exact bools_reads bs) (.bool b) (pl bs) rfl ?_ ⟨.int _, H, I.tok _, ⟨_, rfl⟩, ?_⟩
        · have : (PyData.bool b).depth ≤ 1 := by unfold PyData.depth; omega
          have m := Nat.min_le_right (PyData.depthAll (bs.map PyData.bool)) (PyData.bool b).depth
          omega
        · have ec : (bs.map PyData.bool).countP (fun y => PyData.eqv y (.bool b)) = bs.countP fun c => c == b := by
            rw [List.countP_map]
            congr 1
          rw [ec]
          exact o.at sm rfl
      · exact o.elim
    · exact o.elim
  · exact o.elim
end
theorem _root_.L2H.RoomH.u66 {k : Nat} {A : Around} (r : L2H.RoomH k A) : A.units + 66 < cLine := by have := r.un; omega
theorem RE.length {K : ZZ} {φ : List Addr} {H : Hp} : ∀ {ρ : Env} {σ : L2.St}, RE K φ H ρ σ → σ.length = ρ.length
  | [], σ, h => by rw [show σ = [] from h]; rfl
  | q :: ρ, σ, h => by
    obtain ⟨w, r, e1, k, s⟩ := h
    rw [e1, List.length_cons, List.length_cons, RE.length s]
theorem fl_lookup {K : ZZ} {φ : List Addr} {H : Hp} {f : Str} : ∀ {gs : List (Str × V)} {vs : List PV} {p : PV}, RVs K φ H vs (gs.map (·.2)) → ((gs.map (·.1)).zip vs).lookup f = some p → ∃ v, gs.lookup f = some v ∧ RV K φ H p v
  | [], vs, p, r, e => by
    have : vs = [] := by
      cases vs with
      | nil => rfl
      | cons a b =>
        obtain ⟨v, t, e', _⟩ := r
        cases e'
    subst this
    cases e
  | g :: gs, [], p, r, e => by cases e
  | g :: gs, q :: vs, p, r, e => by
    obtain ⟨v, t, e', rq, rs⟩ := r
    obtain ⟨g1, g2⟩ := g
    simp only [List.map_cons, List.cons.injEq] at e'
    obtain ⟨rfl, rfl⟩ := e'
    simp only [List.map_cons, List.zip_cons_cons, List.lookup_cons] at e
    rw [List.lookup_cons]
    cases h : f == g1 with
    | true =>
      rw [h] at e
      cases e
      exact ⟨_, rfl, rq⟩
    | false =>
      rw [h] at e
      exact fl_lookup rs e
theorem zal {X : Cx} {W : WX} {C : Calls} {x : Str} {pos : Pos} (hm : X.mg x = some (.ref (He.ga X.K x))) (hv : x ≠ "ValueError" := by decide +kernel) (hg : Gl X x := by rfl) (hd : (x == ("__debug__" : Str)) = false := by decide) : JE X W C (.Name x pos) (.lit (.cls x)) :=
  je_glob (v := .ref (He.ga X.K x)) hm rfl (fun φ H => by show _ = if x = "ValueError" then _ else _; rw [if_neg hv]) hg hd
theorem je_ve {X : Cx} {W : WX} {C : Calls} {pos : Pos} (hm : X.mg "ValueError" = none) (hg : Gl X "ValueError" := by rfl) : JE X W C (.Name "ValueError" pos) (.lit (.cls "ValueError")) :=
  je_lit (pe_bltn (v := .ty "ValueError") hg hm PyProof.Rows.Boot.«ValueError» rfl (by decide) (by decide)) fun φ H => by show _ = if ("ValueError" : Str) = "ValueError" then _ else _; rw [if_pos rfl]
theorem bk_not : ("BookError" : Str) ∉ excAll := by decide +kernel
theorem xkB_ok {K : PySem.W.Frag} (e : xkB K = true) : XkI K := by
  obtain ⟨e1, e⟩ := He.ba e
  obtain ⟨e2, e⟩ := He.ba e
  have all := List.all_eq_true.mp e
  have part : ∀ x ∈ excAll, _ := fun x hx => by
    have z := all x hx
    obtain ⟨z1, z⟩ := He.ba z
    obtain ⟨z2, z⟩ := He.ba z
    obtain ⟨z3, z⟩ := He.ba z
    obtain ⟨z4, z⟩ := He.ba z
    obtain ⟨z5, z⟩ := He.ba z
    obtain ⟨z6, z⟩ := He.ba z
    obtain ⟨z7, z⟩ := He.ba z
    obtain ⟨z8, z9⟩ := He.ba z
    exact (⟨⟨z1, He.eqO_ok z2, He.eqO_ok z3, of_decide_eq_true z4, He.eqO_ok z5, of_decide_eq_true z6⟩, fun c hc => of_decide_eq_true (List.all_eq_true.mp z7 c hc), of_decide_eq_true z8, of_decide_eq_true z9⟩ :
      ((PySem.W.clsIn K (He.ga K x)).isSome = true ∧ PySem.W.findIn K (.ref (He.ga K x)) "__getattribute__" = some (some (.builtin "BaseException.__getattribute__")) ∧ PySem.W.findIn K (.ref (He.ga K x)) "__getattr__" = some none ∧ PySem.W.subIn K (.ref (He.ga K x)) (.type "BaseException") = some true ∧ PySem.W.findIn K (.ref (He.ga K x)) "__class__" = some (some (.builtin "object.__class__")) ∧ PySem.W.mroIn K (He.ga K x) (.type "object") = some true) ∧
      (∀ c ∈ excAll, PySem.W.kitOne K (.ref (He.ga K x)) (.ref (He.ga K c)) = some (decide (x = c))) ∧ PySem.W.kitOne K (.ref (He.ga K x)) (.ref (He.ga K "BookError")) = some true ∧ PySem.W.kitOne K (.ref (He.ga K x)) (.type "ValueError") = some true)
  refine ⟨fun x hx => (part x hx).1, He.eqO_ok e1, of_decide_eq_true e2, fun x hx c hc => ?_, fun x hx => (part x hx).2.2.2⟩
  rcases hc with hc | hc
  · rw [(part x hx).2.1 c hc, decide_eq_false (fun z : c = "BookError" => bk_not (by rw [← z]; exact hc)), Bool.or_false]
  · rw [hc, (part x hx).2.2.1]
    simp
end Sb
namespace Sb
open PySem PySem.Spec PyProof.Rows L2
section
variable {K : PySem.W.Frag} {P : Program} {w : World} {φ : List Addr} {H : Hp} {pn pn' : List (Addr × Obj)}
mutual
theorem RV.cold : ∀ {p : PV} {v : V}, RV ⟨K, [], P, w⟩ φ H p v → coldV p = true
  | .non, _, _ => rfl
  | .bl _, _, _ => rfl
  | .int _, _, _ => rfl
  | .str _, _, _ => rfl
  | .ty _, _, _ => rfl
  | .ref _, _, _ => rfl
  | .tup l, v, h => by
    obtain ⟨a, vs, e, q, r⟩ := h
    exact RVs.cold (p := l) r
  | .cl l, v, h => by
    obtain ⟨a, vs, e, q, r⟩ := h
    exact RVs.cold (p := l) r
  | .cls _, _, _ => rfl
  | .xc _ _ _, v, h => by
    obtain ⟨a, oe, e, q, _⟩ := h
    cases q
  | .ste _, _, _ => rfl
  | .exv _ _ l, v, h => by
    obtain ⟨a, us, e, n, d, r⟩ := h
    exact RVs.cold (p := l) r
theorem RVs.cold : ∀ {p : List PV} {v : List V}, RVs ⟨K, [], P, w⟩ φ H p v → coldVs p = true
  | [], _, _ => rfl
  | p :: ps, vs, h => by
    obtain ⟨v, r, e, q, s⟩ := h
    exact Bool.and_eq_true_iff.mpr ⟨RV.cold q, RVs.cold (p := ps) s⟩
end
theorem RO.cold {o : PO} {ho : HO} (h : RO ⟨K, [], P, w⟩ φ H o ho) : coldO o = true := by
  cases o with
  | lst l =>
    obtain ⟨vs, e, r⟩ := h
    exact RVs.cold (p := l) r
  | dct l =>
    obtain ⟨kvs, e, k, r⟩ := h
    exact RVs.cold r
  | obj c fs =>
    obtain ⟨dx, kvs, e, k, r⟩ := h
    exact RVs.cold r
  | dtp l =>
    obtain ⟨kvs, e, k, r⟩ := h
    exact RVs.cold r
theorem Sim.cold {h : PH} (s : Sim ⟨K, [], P, w⟩ φ h H) {n : Nat} {o : PO} (e : h[n]? = some o) : coldO o = true := by
  obtain ⟨a, ho, _, _, r⟩ := s.ob n o e
  exact r.cold
theorem RE.cold : ∀ {ρ : Env} {σ : L2.St} {n : Nat} {p : PV}, RE ⟨K, [], P, w⟩ φ H ρ σ → ρ[n]? = some (some p) → coldV p = true := fun r e => by
  obtain ⟨v, _, q⟩ := r.get e
  exact q.cold
end
/-- its context; k: how deep calls may go -/
structure CqX (X : Cx) (W : WX) (k : Nat) : Prop where
  cold : X.calm = false
  nd : X.N.Nodup
  hr : L2H.RoomH k X.A
  tk : L2N.Takes X W
  hot : ∃ p r, X.pn = p :: r ∧ L2H.Hot1 X.A p
theorem CqX.u66 {X : Cx} {W : WX} {k : Nat} (c : CqX X W k) : X.A.units + 66 < cLine := c.hr.u66
end Sb
namespace Sb
open PySem PySem.Spec L2
def pick {α : Type} (ix : List Nat) (l : List α) : List α := ix.filterMap fun i => l[i]?
theorem vals_pick {vs : List V} {us : List Value} (r : Vals vs us) : ∀ ix : List Nat, Vals (pick ix vs) (pick ix us)
  | [] => .nil
  | i :: ix => by
    have ih := vals_pick r ix
    unfold pick
    rw [List.filterMap_cons, List.filterMap_cons]
    cases h : vs[i]? with
    | none =>
      have : us[i]? = none := by
        rw [List.getElem?_eq_none_iff] at h ⊢
        rw [← r.length]
        exact h
      rw [this]
      exact ih
    | some v =>
      obtain ⟨u, hu, ru⟩ := r.get h
      rw [hu]
      exact .cons ru ih
theorem pk_imp {X : Cx} {kws : List Keyword} {t t' : TA} (h : PK X kws t) (f : ∀ σ H Q, t' σ H Q → t σ H Q) : PK X kws t' := ⟨fun pos pins s σ H Q I q => h.run pos pins s σ H Q I (f σ H Q q)⟩
abbrev JK (X : Cx) (W : WX) (C : Calls) (kws : List Keyword) (ees : List E) : Prop := PK X kws (tAs (zOf X) X.mg W C ees)
section
variable {X : Cx} {W : WX} {C : Calls} {a b c : Expr} {as : List Expr} {pos p kpos : Pos} {ea eb ec : E} {ees kes : List E} {x : Str} {k : Nat} {kws : List Keyword} {nm : Option Str}
theorem zb2 : JK X W C [] [] := pk_imp pk_nil fun σ H Q ⟨ρ, φ, h, sm, re, o⟩ => o.at sm RVs.nil
theorem zau (ha : JE X W C a ea) (hr : JK X W C kws ees) : JK X W C (⟨nm, a, kpos⟩ :: kws) (ea :: ees) :=
  pk_imp (pk_cons ha hr) fun σ H Q ⟨ρ, φ, h, sm, re, o⟩ =>
    ⟨ρ, φ, h, sm, re, (Out.bind (rel2 := RV (zOf X)) (show Out (zOf X) X.mg (RVs (zOf X)) φ H (atS W σ) Q ((evG C ea false ρ h).bind fun x h1 => (evGs C ees ρ h1).bind fun l h2 => .ok (x :: l) h2) from o)).imp fun x H1 ⟨φ1, va, h1, x1, s1, r1, o1⟩ =>
      ⟨ρ, φ1, h1, s1, re.mono x1, (Out.bind (rel2 := RVs (zOf X)) o1).imp fun xs H2 ⟨φ2, vb, h2, x2, s2, r2, o2⟩ => o2.at s2 (RVs.cons (r1.mono x2) r2)⟩⟩
end
section
variable {K : PySem.W.Frag} {x qual : Str} {params : Arguments} {body : List Stmt} {scope : Scope} {dvs : List V} {kws : List (Str × V)} {f : Addr} {fd : FuncData} {ps : List Str}
theorem kbnN (F : FunD K x qual params body scope [] kws f fd) (n : Nat) (ks : List Str) (ix : List Nat)
    (h : ∀ (kV doc pm : Value) (an : Option Addr) (cdv ct : Value) (us ws : List Value), us.length = n → ws.length = ks.length → bindArgs (PySem.W.fnOf x qual params body scope .none kV doc pm an cdv ct) ⟨us, ks.zip ws⟩ = pure (ps.zip (pick ix (us ++ ws)))) :
    KBn K fd ps n ks (fun us ws => pick ix (us ++ ws) ++ []) (fun vs zs => pick ix (vs ++ zs) ++ []) := by
  obtain ⟨oc, od, dV, kV, doc, pm, an, cdv, ct, osl, rfl, lk, hcd, hD, hK⟩ := F.ex
  rcases hD with ⟨_, rfl⟩ | ⟨e, _⟩
  · exact ⟨fun s us ws X l1 l2 => .of_eq (by rw [List.append_nil]; exact h kV doc pm an cdv ct us ws l1 l2), fun r1 r2 => (vals_pick (r1.append r2) ix).append .nil⟩
  · exact absurd rfl e
end
end Sb
namespace Sb
open PySem PySem.Spec PyProof.Rows L2
section
variable {K : ZZ} {φ φ' : List Addr} {H H' : Hp}
def RFd (K : ZZ) (φ : List Addr) (H : Hp) (fs : List (Str × PV)) (kvs : List (Str × V)) : Prop := kvs.map (·.1) = fs.map (·.1) ∧ RVs K φ H (fs.map (·.2)) (kvs.map (·.2))
theorem RFd.nil : RFd K φ H [] [] := ⟨rfl, rfl⟩
theorem RFd.inv {f : Str} {p : PV} {l : List (Str × PV)} {kvs : List (Str × V)} (r : RFd K φ H ((f, p) :: l) kvs) : ∃ v t, kvs = (f, v) :: t ∧ RV K φ H p v ∧ RFd K φ H l t := by
  cases kvs with
  | nil =>
    have := r.1
    simp at this
  | cons kv t =>
    obtain ⟨k', v⟩ := kv
    obtain ⟨r1, v', t', e, q, s⟩ := r
    simp at r1 e
    obtain ⟨rfl, r2⟩ := r1
    obtain ⟨rfl, rfl⟩ := e
    exact ⟨v, t, rfl, q, r2, s⟩
theorem RFd.empty {kvs : List (Str × V)} (r : RFd K φ H [] kvs) : kvs = [] := by
  have := r.1
  simpa using this
theorem RFd.cons {f : Str} {p : PV} {v : V} {l : List (Str × PV)} {kvs : List (Str × V)} (h : RV K φ H p v) (r : RFd K φ H l kvs) : RFd K φ H ((f, p) :: l) ((f, v) :: kvs) := ⟨by simp [r.1], RVs.cons h r.2⟩
theorem RFd.mono (x : Ext φ φ' H H') {l : List (Str × PV)} {kvs : List (Str × V)} (r : RFd K φ H l kvs) : RFd K φ' H' l kvs := ⟨r.1, r.2.mono x⟩
theorem RFd.put {f : Str} {p : PV} {v : V} (h : RV K φ H p v) : ∀ {l : List (Str × PV)} {kvs : List (Str × V)}, RFd K φ H l kvs → RFd K φ H (putO f p l) (putF f v kvs)
  | [], kvs, r => by
    rw [r.empty]
    exact RFd.cons h RFd.nil
  | (g, q) :: l, kvs, r => by
    obtain ⟨w, t, rfl, q', s⟩ := r.inv
    unfold putO putF
    by_cases e : g = f
    · rw [if_pos e, if_pos e]
      exact RFd.cons h s
    · rw [if_neg e, if_neg e]
      exact RFd.cons q' (RFd.put h s)
theorem RFd.length {l : List (Str × PV)} {kvs : List (Str × V)} (r : RFd K φ H l kvs) : l.length = kvs.length := by
  have := congrArg List.length r.1
  simpa using this.symm
theorem Sim.obj {h : PH} {n : Nat} {c : Str} {fs : List (Str × PV)} (s : Sim K φ h H) (e : h[n]? = some (.obj c fs)) : ∃ a dx kvs, φ[n]? = some a ∧ H a = some (.ins (He.ga K.K c) dx kvs) ∧ RFd K φ H fs kvs := by
  obtain ⟨a, ho, e1, e2, dx, kvs, e3, r⟩ := s.ob n _ e
  subst e3
  exact ⟨a, dx, kvs, e1, e2, r⟩
end
end Sb
namespace Sb
open PySem PySem.Spec PyProof.Rows L2
theorem obsU_eq {n : Nat} {fa : List He.Fa} {fn : List He.DefD} {ex : PySem.W.Frag → Bool} {ts : List (Str × List Str)} (s : PySem.W.SharedT) : obsU n fa fn ex ts s = (hookU n fa fn ex ts).obs s.abs := by
  have e : HandSHeadRun.getT s = s.abs.heap.get? := funext (HandSHeadRun.getT_eq s)
  unfold obsU
  rw [e]
  rfl
end Sb
namespace L2
open PySem
end L2
namespace Sb
open PySem PySem.Spec PyProof.Rows L2
section
open L2
variable {K : ZZ} {φ : List Addr} {H : Hp} {X : Cx} {W : XK}
theorem RD.drop (k : Key) : ∀ {l : List (Key × PV)} {kvs : List (Key × V)}, RD K φ H l kvs → RD K φ H (dropP l k) (dropK kvs k)
  | [], kvs, r => by
    rw [r.empty]
    exact RD.nil
  | (k', p) :: l, kvs, r => by
    obtain ⟨v, t, rfl, q, s⟩ := r.inv
    have ih := RD.drop k s
    unfold dropP dropK at ih ⊢
    by_cases e : k' = k
    · rw [List.filter_cons_of_neg (by simp [e]), List.filter_cons_of_neg (by simp [e])]
      exact ih
    · rw [List.filter_cons_of_pos (by simp [e]), List.filter_cons_of_pos (by simp [e])]
      exact RD.cons q ih
end
end Sb
namespace Sb
open PySem PySem.Spec PyProof.Rows L2
theorem Kp.trans {φ φ' φ2 : List Addr} {H H' H2 : Hp} (x : Kp φ φ' H H') (y : Kp φ' φ2 H' H2) : Kp φ φ2 H H2 := ⟨fun n a e => y.pl n a (x.pl n a e), fun a o f e n => y.fx a o f (x.fx a o f e n).1 (x.fx a o f e n).2⟩
theorem RE.monoK {K : ZZ} {φ φ' : List Addr} {H H' : Hp} (x : Kp φ φ' H H') : ∀ {ρ : Env} {σ : L2.St}, RE K φ H ρ σ → RE K φ' H' ρ σ
  | [], _, h => h
  | q :: ρ, σ, h => by
    obtain ⟨v, r, e, k, s⟩ := h
    exact ⟨v, r, e, fun y z => (k y z).imp fun u w => ⟨w.1, w.2.monoK x⟩, RE.monoK x s⟩
end Sb
set_option maxHeartbeats 2000000
namespace Sb
open PySem PySem.Spec PyProof.Rows L2 HotX
section
variable {X : Cx}
/-- the block of a comprehension while an exception is handled -/
abbrev bkH (X : Cx) (p : Addr × Obj) (s : Shared) (H : Hp) (scope : Scope) (ce : PySem.Env) (fp : List Addr) : Cx := { X.blk s H scope ce fp with pn := [p] }
end
end Sb
set_option maxHeartbeats 4000000
namespace Sb
open PySem PySem.Spec PyProof.Rows L2
section
variable {X : Cx} {W : WX} {C : Calls} {k : Nat} {a b : Expr} {ea eb : E} {p pos : Pos}
theorem CqX.hot1 (c : CqX X W k) {p : Addr × Obj} {r : List (Addr × Obj)} (ep : X.pn = p :: r) : L2H.Hot1 X.A p := by
  obtain ⟨p', r', e, h⟩ := c.hot
  rw [ep] at e
  cases e
  exact h
theorem CqX.bk (c : CqX X W k) {p : Addr × Obj} {r : List (Addr × Obj)} (ep : X.pn = p :: r) (s : Shared) (H : Hp) (scope : Scope) (ce : PySem.Env) (fp : List Addr) : CqX (bkH X p s H scope ce fp) W0 k := ⟨c.cold, c.nd, c.hr, takesN0, p, [], rfl, c.hot1 ep⟩
end
end Sb
namespace Sb
open PySem PySem.Spec PyProof.Rows L2
/-- a set of texts: in any order those of D; its table rises and can be walked -/
def SetRS (P : Program) (w : World) (h : Heap) (a : Addr) (D : List Str) : Prop :=
  ∃ o es ep t, h.get? a = some o ∧ o.ExactSet ∧ o.data = .set es ep t ∧ ElemsOf (PySem.strKind P w) es.toList ∧ (es.toList.map fun e => strOf e.2).Perm D ∧
    es.size < scanBound ∧ t.fits es.size = true ∧ Ris t.place.toList ∧ (w.params.followText "set-order" = true ∨ t.led = true)
section
variable {P : Program} {w : World} {A : Around} {E : Value → Shared → Prop} {s : Shared} {a : Addr} {D : List Str}
theorem SetRS.at {h h' : Heap} (R : SetRS P w h a D) (k : ∀ o, h.get? a = some o → h'.get? a = some o) : SetRS P w h' a D := by
  obtain ⟨o, es, ep, t, ho, r⟩ := R
  exact ⟨o, es, ep, t, k o ho, r⟩
end
end Sb
namespace Sb
open PySem PySem.Spec PyProof.Rows L2
/-- the values under like keys, one by one -/
inductive HitsW (prog : Program) (w : World) {K : Type} [DecidableEq K] (A : Around) (s : Shared) (kb : List (K × Value)) : List (K × Value) → Bool → Prop
  | nil : HitsW prog w A s kb [] true
  | miss {k : K} {v : Value} {r : List (K × Value)} : valueAt kb k = none → HitsW prog w A s kb ((k, v) :: r) false
  | hit {k : K} {v y : Value} {r : List (K × Value)} {e b : Bool} : valueAt kb k = some y → (∀ (E : Value → Shared → Prop) (Q : Bool → Shared → Prop), Q e s → wpAny (model prog w) A (eqBool v y) Q E s) → HitsW prog w A s kb r b → HitsW prog w A s kb ((k, v) :: r) (e && b)
theorem HitsW.inv {prog : Program} {w : World} {K : Type} [DecidableEq K] {A : Around} {s : Shared} {kb : List (K × Value)} {k : K} {v : Value} {r : List (K × Value)} {b : Bool} (h : HitsW prog w A s kb ((k, v) :: r) b) :
    (valueAt kb k = none ∧ b = false) ∨ ∃ y e b', valueAt kb k = some y ∧ (∀ (E : Value → Shared → Prop) (Q : Bool → Shared → Prop), Q e s → wpAny (model prog w) A (eqBool v y) Q E s) ∧ HitsW prog w A s kb r b' ∧ b = (e && b') := by
  cases h with
  | miss h => exact .inl ⟨h, rfl⟩
  | hit h1 h2 h3 => exact .inr ⟨_, _, _, h1, h2, h3, rfl⟩
end Sb
namespace Sb
open PySem PySem.Spec L2
/-- pairs, flat and as pairs -/
def RPs (K : ZZ) (φ : List Addr) (H : Hp) : List PV → List (V × V) → Prop
  | [], ps => ps = []
  | [_], _ => False
  | a :: b :: l, ps => ∃ x y r, ps = (x, y) :: r ∧ RV K φ H a x ∧ RV K φ H b y ∧ RPs K φ H l r
theorem RPs.mono {K : ZZ} {φ φ' : List Addr} {H H' : Hp} (x : Ext φ φ' H H') : ∀ {l : List PV} {ps : List (V × V)}, RPs K φ H l ps → RPs K φ' H' l ps
  | [], _, r => r
  | [_], _, r => r.elim
  | _ :: _ :: _, _, ⟨u, v, r, e, q1, q2, q3⟩ => ⟨u, v, r, e, q1.mono x, q2.mono x, RPs.mono x q3⟩
end Sb
namespace PySem.HandSPX
open PySem PySem.W
section
variable {M : Model} {A : Around} {E : Value → Shared → Prop} {h : Heap} {g : Array GenState} {d : Drawn} {t : Nat} {os : OsState}
variable {nm q : Str} {C N : Addr} {bs bm bmB : List Value} {hdct : Bool} {sn : List Str} {sub : List Value} {ab : Bool} {col : Option Bool} {dd : Option Addr} {k0 k1 k2 k3 k5 : Option Value} {B newId initId : String}
theorem check_new_ownK (F : ExcBaseFacts B newId initId bmB) (hT : ∀ X : String, bm.contains (.type X) = bmB.contains (.type X)) {rest : List Value} {kw : List (Str × Value)} {Q : Unit → Shared → Prop}
    (hC : h.get? C = some (excClassObj nm q C N bs bm hdct sn sub ab col dd k0 k1 k2 k3 k5 newId)) (hq : Q () ⟨h, g, d, t, os⟩) : wpAny M A (checkBuiltinCall newId ⟨.ref C :: rest, kw⟩) Q E ⟨h, g, d, t, os⟩ := by
  have hcont : (Value.ref C :: bm).contains (.type B) = true := by rw [List.contains_cons, hT, F.hasB, Bool.or_true]
  have hstar := F.noStar
  simp only [checkBuiltinCall, F.newKind, F.newSplit, F.newRow]
  repeat (first | refine wpAny_loadPart_at hC ?_ | (refine wpAny_isSubtype_exc hC ?_; rw [hcont]) | refine wpAny_staticBase_exc hC ?_ | refine wpAny_madeBy_exc hC ?_ | simp only [bne_self_eq_false, Bool.false_eq_true, if_false] | wp_step)
  exact hq
end
section
variable {prog : Program} {w : World} {A : Around} {E : Value → Shared → Prop} {R : Result → Shared → Prop} {h : Heap} {g : Array GenState} {d : Drawn} {t : Nat} {os : OsState}
variable {nm q : Str} {C N : Addr} {bs bm bmB : List Value} {hdct : Bool} {sn : List Str} {sub : List Value} {ab : Bool} {col : Option Bool} {dd : Option Addr} {k0 k1 k2 k3 k5 : Option Value} {B newId initId : String}
theorem new_ownK (F : ExcBaseFacts B newId initId bmB) (hT : ∀ X : String, bm.contains (.type X) = bmB.contains (.type X)) {rest : List Value} {kw : List (Str × Value)}
    (hC : h.get? C = some (excClassObj nm q C N bs bm hdct sn sub ab col dd k0 k1 k2 k3 k5 newId))
    (hq : R (.ok (.ret (.ref (h.objs.size + 1)))) ⟨(h.push { cls := .type "tuple", data := .seq rest.toArray }).push
      { cls := .ref C, data := .fields #[.ref h.objs.size, .none, .none, .none, .bool false, .none] }, g, d, t, os⟩) (hrest : rest.length ≤ sizeLine) :
    codeAny (model prog w) A (.builtin newId ⟨.ref C :: rest, kw⟩) R ⟨h, g, d, t, os⟩ := by
  have hends := F.ends
  have hcB : (Value.ref C :: bm).contains (.type B) = true := by rw [List.contains_cons, hT, F.hasB, Bool.or_true]
  have hcA : (Value.ref C :: bm).contains (.type "AttributeError") = false := by rw [List.contains_cons, hT, F.noAttr]; rfl
  have hcN : (Value.ref C :: bm).contains (.type "NameError") = false := by rw [List.contains_cons, hT, F.noName]; rfl
  refine codeAny_builtinAt F.entry ?_
  unfold Builtin.«BaseException.__new__»
  refine wpAt_bind ?_
  show wpAt _ _ _ (stack >>= _) _ _ _
  refine wpAt_bind (wpAt_stack fun p below => wpAt_of_wpAny ?_)
  wp_walk
  refine wpAt_of_wpAny ?_
  rw [F.owner]
  repeat (first | with_reducible refine wpAny_madeHere_exc F.canon hC ?_ | with_reducible refine wpAny_loadPart_at hC ?_ | (with_reducible refine wpAny_isSubtype_exc hC ?_; first | rw [hcB] | rw [hcA] | rw [hcN]) | wp_step)
  show R _ _
  rw [Heap.size_push]
  exact hq
theorem type_call_ownK (F : ExcBaseFacts B newId initId bmB) (hT : ∀ X : String, bm.contains (.type X) = bmB.contains (.type X)) {rest : List Value} {kw : List (Str × Value)} {fI : Addr} {Q : Fin → Shared → Prop}
    (hC : h.get? C = some (excClassObj nm q C N bs bm hdct sn sub ab col dd k0 k1 k2 k3 k5 newId))
    (hi : W.Looks (model prog w) h (typeLookup (.ref C) "__init__") (some (.ref fI))) (hb : ∀ self, W.Looks (model prog w) h (bindSpecial (.ref fI) self) (.ref fI, [self])) (hrest : rest.length ≤ sizeLine)
    (hq : codeAny (model prog w) A (.call (.ref fI) ⟨.ref (h.objs.size + 1) :: rest, kw⟩)
      (fun r s' => match r with | .ok (.ret v) => v = .none ∧ Q (.done (.ret (.ref (h.objs.size + 1)))) s' | .ok _ => False | .error e => E e s')
      ⟨(h.push (W.kdv_tup rest)).push (excO C h.objs.size), g, d, t, os⟩) :
    wpAny (model prog w) A (Builtin.«type.__call__» ⟨.ref C :: rest, kw⟩) Q E ⟨h, g, d, t, os⟩ := by
  repeat (first | with_reducible refine wpAny_loadPart_at hC ?_ | with_reducible refine wpAny_madeBy_exc hC ?_ | wp_step)
  refine codeAny_call_builtin_code (Code.quiet_builtin _ F.quiet) (check_new_ownK F hT hC ?_)
  refine new_ownK F hT hC ?_ hrest
  show wpAny _ _ _ _ _ _
  have k : ∀ b o, h.get? b = some o → ((h.push (W.kdv_tup rest)).push (excO C h.objs.size)).get? b = some o := fun b o e => Heap.get?_push_of_some _ (Heap.get?_push_of_some _ e)
  have hC₁ := k _ _ hC
  have hget : ((h.push (W.kdv_tup rest)).push (excO C h.objs.size)).get? (h.objs.size + 1) = some (excO C h.objs.size) := by heap_get
  have hcC : (Value.ref C :: bm).contains (.ref C) = true := by simp
  have i1 := hi.keeps k
  have b1 := (hb (.ref (h.objs.size + 1))).keeps k
  unfold isInstance
  repeat (first | with_reducible refine wpAny_loadPart_at hget ?_ | (with_reducible refine wpAny_isSubtype_exc hC₁ ?_; rw [hcC]) | wp_step)
  show wpAny _ _ (typeLookup (.ref C) _) _ _ _
  refine i1.at ?_
  refine wpAny_holding (wpAny_bind (b1.at ?_))
  refine wpAny_bind (wpAny_call (codeAny_mono hq fun r s' z => ?_))
  rcases r with e | (v | _ | _ | _) <;> first | exact z | exact z.elim | skip
  obtain ⟨rfl, z⟩ := z
  first
    | exact wpAny_pure (wpAny_pure z)
    | (wp_walk; exact z)
theorem call_ownK (F : ExcBaseFacts B newId initId bmB) (hT : ∀ X : String, bm.contains (.type X) = bmB.contains (.type X)) {rest : List Value} {kw : List (Str × Value)} {fI : Addr}
    (hC : h.get? C = some (excClassObj nm q C N bs bm hdct sn sub ab col dd k0 k1 k2 k3 k5 newId))
    (hi : W.Looks (model prog w) h (typeLookup (.ref C) "__init__") (some (.ref fI))) (hb : ∀ self, W.Looks (model prog w) h (bindSpecial (.ref fI) self) (.ref fI, [self])) (hrest : rest.length ≤ sizeLine)
    (hq : codeAny (model prog w) (A.under (.builtin "type.__call__" ⟨.ref C :: rest, kw⟩)) (.call (.ref fI) ⟨.ref (h.objs.size + 1) :: rest, kw⟩) (W.InitBack (h.objs.size + 1) R)
      ⟨(h.push (W.kdv_tup rest)).push (excO C h.objs.size), g, d, t, os⟩) :
    codeAny (model prog w) A (.call (.ref C) ⟨rest, kw⟩) R ⟨h, g, d, t, os⟩ := by
  have f1 := tc_lookup
  have f2 := tc_bind (.ref C)
  have hTy : (⟨h, g, d, t, os⟩ : Shared).TypeIs (.ref C) "type" := ⟨_, hC, rfl⟩
  refine codeAny_of_tree ?_
  show wpAny _ _ (callAny (.ref C) _) _ _ _
  repeat (any_goals (first | assumption | with_reducible refine wpAny_loadPart_at hC ?_ | wp_step))
  refine ⟨rfl, ?_⟩
  refine codeAny_call_builtin_at (Code.quiet_builtin _ (by decide +kernel)) entry_typeCall (wpAny_check_type_call_sub hC (type_call_ownK F hT hC hi hb hrest ?_))
  refine codeAny_mono hq fun r s' z => ?_
  rcases r with e | (v | _ | _ | _) <;> exact z
end
end PySem.HandSPX
namespace Sb
open PySem PySem.Spec PyProof.Rows L2
section
variable {X : Cx} {e : Expr} {es : List Expr} {ta : TA} {p pos : Pos}
/-- an own class with its own __init__ is called -/
theorem oex_run {C fI : Addr} {k : Nat} {fd : FuncData} {ps : List Str} {sp : Sp} {pins : List (Addr × Obj)} {σ : L2.St} {H : Hp} {s : Shared} {Q : VK} {us : List Value} {kw : List (Str × Value)} {al : Addr → List Value} {alV : Addr → List V}
    (T : OexC X.K C) (iC : PySem.W.findIn X.K (.ref C) "__init__" = some (some (.ref fI))) (tI : PySem.W.typeIn X.K (.ref fI) = some (.type "function"))
    (F1 : FnOk X.prog X.w X.K X.mg X.base (L2N.CX X.prog X.w) k fI fd ps sp) (hr : Room (k + 1) X.A) (hb : ∀ (s : Shared) (a : Addr), X.K.In s.heap → (alV a).length = ps.length → BindsTo s fd ⟨Value.ref a :: us, kw⟩ (ps.zip (al a))) (ra : ∀ a, Vals (alV a) (al a)) (hus : us.length ≤ sizeLine)
    (I : Inv X pins σ H s) (h : ∀ a, H a = none → sp (alV a) (upd H a (exo a C none)) (fun v H2 => v = .non ∧ Q (.ref a) H2) (fun _ _ _ => False)) :
    wpAny (model X.prog X.w) X.A (PySem.call (.ref C) us kw) (EP X pins σ Q) X.xe s := by
  obtain ⟨nm, q, N, bs, bm, sn, sub, ab, col, dd, k0, k1, k2, k3, k5, hC, hbm⟩ := T.cls
  obtain ⟨hp, g, dr, tk, os⟩ := s
  have hsz : hp.objs.size ≤ hp.objs.size + 1 := Nat.le_succ _
  have hn : H (hp.objs.size + 1) = none := I.hok.fresh hsz
  have hq := h (hp.objs.size + 1) hn
  have kk : ∀ b o, hp.get? b = some o → ((hp.push (PySem.W.kdv_tup us)).push (PySem.HandSPX.excO C hp.objs.size)).get? b = some o := fun b o e => Heap.get?_push_of_some _ (Heap.get?_push_of_some _ e)
  have hget : ((hp.push (PySem.W.kdv_tup us)).push (PySem.HandSPX.excO C hp.objs.size)).get? (hp.objs.size + 1) = some (PySem.HandSPX.excO C hp.objs.size) := by heap_get
  have I2 : Inv X pins σ (upd H (hp.objs.size + 1) (exo (hp.objs.size + 1) C none)) ⟨(hp.push (PySem.W.kdv_tup us)).push (PySem.HandSPX.excO C hp.objs.size), g, dr, tk, os⟩ :=
    I.laid (t' := tk) (a := hp.objs.size + 1) (o := exo (hp.objs.size + 1) C none) (h' := (hp.push (PySem.W.kdv_tup us)).push (PySem.HandSPX.excO C hp.objs.size)) kk hsz (exo_ok hget)
  refine wpAny_call (PySem.HandSPX.call_ownK F.excBase_ValueError (fun Y => PySem.HandSPX.refsVE_contains Y bm hbm) (I.kIn _ _ hC) (PySem.W.looks_findIn I.kIn iC) (fun self => PySem.W.bind_fn I.kIn self tI) hus
    (codeAny_mono (F1.run _ X.stack _ _ ⟨Value.ref (hp.objs.size + 1) :: us, kw⟩ (al (hp.objs.size + 1)) (alV (hp.objs.size + 1)) _ (fun _ _ _ => False) (hr.make C us kw) (I2.env0.make C us kw) (hb _ _ I2.kIn (F1.len _ _ _ _ hq)) (ra _) hq) fun r s' hq' => ?_))
  cases r with
  | error er => exact (cxN_false hq').elim
  | ok fl =>
    cases fl with
    | ret u =>
      obtain ⟨v, H', I3, rv, ev, q3⟩ := I2.after hq'
      subst ev
      exact ⟨rv, ⟨V.ref (hp.objs.size + 1), H', I3, rfl, q3⟩⟩
    | next => exact False.elim hq'
    | brk => exact False.elim hq'
    | cont => exact False.elim hq'
theorem pe_oex {x : Str} {C fI : Addr} {k : Nat} {fd : FuncData} {ps : List Str} {sp : Sp} (T : OexC X.K C) (iC : PySem.W.findIn X.K (.ref C) "__init__" = some (some (.ref fI))) (tI : PySem.W.typeIn X.K (.ref fI) = some (.type "function"))
    (F1 : FnOk X.prog X.w X.K X.mg X.base (L2N.CX X.prog X.w) k fI fd ps sp) (hr : Room (k + 1) X.A) (hb : Binds X.K fd ps []) (hm : X.mg x = some (.ref C)) (ha : PA X (e :: es) ta) (hg : Gl X x)
    (hdb : (x == ("__debug__" : Str)) = false) (he : starEach (e :: es) X.env = (false, eval e X.env) :: starEach es X.env) (hpl : (backTo pos (starEach es X.env)).any (·.1) = false) :
    PE X (.Call (.Name x p) (e :: es) [] pos) (fun σ H Q => ta σ H fun vs H1 => vs.length ≤ 1000 ∧ ∀ a, H1 a = none → sp (.ref a :: vs) (upd H1 a (exo a C none)) (fun v H2 => v = .non ∧ Q (.ref a) H2) (fun _ _ _ => False)) := by
  refine ⟨fun pins s σ H Q I h => ?_⟩
  refine wpAny_Call_Name_kw (ld_glob I hg hm ?_ hdb)
  refine PySem.W.callWith_K (h₀ := X.base) I.ok.mod.kin T.kC (thn (ha.run pos pins s σ H _ I h) fun us s1 ⟨vs, H1, I1, r1, hz, q1⟩ => ⟨I1.kIn, ?_⟩) he hpl
  have hus : us.length ≤ sizeLine := by
    rw [← Paired.length r1, sizeLine_eq]
    omega
  refine oex_run (al := fun a => Value.ref a :: us) (alV := fun a => V.ref a :: vs) T iC tI F1 hr (fun s a kin hl => ?_) (fun a => .cons rfl r1) hus I1 q1
  have b := hb s (Value.ref a :: us) kin (by rw [List.append_nil, List.length_cons, ← Paired.length r1]; exact hl)
  rw [List.append_nil] at b
  exact b
theorem pe_oexK {x : Str} {C fI : Addr} {k : Nat} {fd : FuncData} {ps ks : List Str} {sp : Sp} {kws : List Keyword} {tk : TA} {g : List Value → List Value → List Value} {gV : List V → List V → List V} (T : OexC X.K C) (iC : PySem.W.findIn X.K (.ref C) "__init__" = some (some (.ref fI))) (tI : PySem.W.typeIn X.K (.ref fI) = some (.type "function"))
    (F1 : FnOk X.prog X.w X.K X.mg X.base (L2N.CX X.prog X.w) k fI fd ps sp) (hr : Room (k + 1) X.A) (hb : KBn X.K fd ps 1 ks g gV) (hm : X.mg x = some (.ref C)) (hkw : PK X kws tk) (hg : Gl X x)
    (hdb : (x == ("__debug__" : Str)) = false) (hall : (backToKw pos (keywordEach kws X.env)).all (·.1.isSome) = true) (hks : (backToKw pos (keywordEach kws X.env)).filterMap (·.1) = ks)
    (hpl : ((backTo pos (starEach [] X.env)).any (·.1) || (backToKw pos (keywordEach kws X.env)).any (·.1.isNone)) = false) :
    PE X (.Call (.Name x p) [] kws pos) (fun σ H Q => tk σ H fun zs H1 => zs.length = ks.length ∧ ∀ a, H1 a = none → sp (gV [.ref a] zs) (upd H1 a (exo a C none)) (fun v H2 => v = .non ∧ Q (.ref a) H2) (fun _ _ _ => False)) := by
  refine ⟨fun pins s σ H Q I h => ?_⟩
  refine wpAny_Call_Name_kw (ld_glob I hg hm ?_ hdb)
  refine PySem.W.callWith_KW0 (h₀ := X.base) I.ok.mod.kin T.kC hall (thn (hkw.run pos pins s σ H _ I h) fun ws s2 ⟨zs, H2, I2, rz, l2, q2⟩ => ⟨I2.kIn, ?_⟩) hpl
  rw [hks]
  exact oex_run (us := []) (al := fun a => g [Value.ref a] ws) (alV := fun a => gV [V.ref a] zs) T iC tI F1 hr (fun s a kin _ => hb.to s [Value.ref a] ws kin rfl (by rw [← Paired.length rz]; exact l2)) (fun a => hb.rel (.cons rfl .nil) rz) (Nat.zero_le _) I2 q2
end
/-- such a class, called by keywords -/
structure XcK (P : Program) (w : World) (K : PySem.W.Frag) (mg : Str → Option Value) (base : Heap) (x : Str) (fs ks : List Str) : Prop where
  T : OexC K (He.ga K x)
  gl : mg x = some (.ref (He.ga K x))
  ini : ∃ (fI : Addr) (fd : FuncData) (ps : List Str), PySem.W.findIn K (.ref (He.ga K x)) "__init__" = some (some (.ref fI)) ∧ PySem.W.typeIn K (.ref fI) = some (.type "function") ∧ FnOk P w K mg base (L2N.CX P w) (0 + 1) fI fd ps (spI (He.ga K x) fs) ∧
    KBn K fd ps 1 ks (fun us ws => pick (List.range (fs.length + 1)) (us ++ ws) ++ []) (fun vs zs => pick (List.range (fs.length + 1)) (vs ++ zs) ++ [])
theorem pick_range {α : Type} : ∀ (l : List α), pick (List.range l.length) l = l
  | l => by
    unfold pick
    apply List.ext_getElem?
    intro i
    have : ∀ (n : Nat), n ≤ l.length → (List.range n).filterMap (fun i => l[i]?) = l.take n := by
      intro n
      induction n with
      | zero => intro _; simp
      | succ n ih =>
        intro hn
        rw [List.range_succ, List.filterMap_append, ih (by omega), List.take_add_one]
        simp [List.getElem?_eq_getElem (show n < l.length by omega)]
    rw [this _ (Nat.le_refl _), List.take_length]
section
variable {X : Cx} {W : WX} {C : Calls} {a e : Expr} {ea : E} {es : List Expr} {ees : List E} {kws : List Keyword} {p pos : Pos} {f : Str}
/-- the object that is made tells the plain exception -/
theorem exv_made {x : Str} {fs ns : List Str} {φ : List Addr} {H : Hp} {h1 : PH} {l : List PV} {vs : List V} {Q : VK} {Wk : XK} (hns : ns = fs.reverse) (hfs : fs ≠ []) (s1 : Sim (zOf X) φ h1 H) (r1 : RVs (zOf X) φ H l vs) (o : Out (zOf X) X.mg (RV (zOf X)) φ H Wk Q (biXmk x ns l h1)) :
    vs.length = fs.length ∧ ∀ a, H a = none → spI (He.ga X.K x) fs (.ref a :: vs) (upd H a (exo a (He.ga X.K x) none)) (fun v H2 => v = .non ∧ Q (.ref a) H2) (fun _ _ _ => False) := by
  subst hns
  unfold biXmk at o
  have hne : fs.reverse ≠ [] := by simpa using hfs
  split at o
  · rename_i e
    exact absurd e hne
  · split at o
    · rename_i hl
      rw [List.length_reverse] at hl
      have lv := r1.length
      refine ⟨by omega, fun a na => ⟨a, vs, rfl, by omega, upd_same, fun d dn dne => ⟨rfl, ?_⟩⟩⟩
      rw [upd_ne dne] at dn
      have eH : upd (upd (upd H a (exo a (He.ga X.K x) none)) d (exd d (fs.zip vs).reverse)) a (exo a (He.ga X.K x) (some d)) = upd (upd H d (exd d (fs.zip vs).reverse)) a (exo a (He.ga X.K x) (some d)) := by
        funext b
        by_cases h2 : b = a
        · rw [h2, upd_same, upd_same]
        · rw [upd_ne h2, upd_ne h2]
          by_cases h1 : b = d
          · rw [h1, upd_same, upd_same]
          · rw [upd_ne h1, upd_ne h1, upd_ne h2]
      rw [eH]
      have n2 : (upd H d (exd d (fs.zip vs).reverse)) a = none := by rw [upd_ne (Ne.symm dne)]; exact na
      have s2 := (s1.new (o := exd d (fs.zip vs).reverse) dn).new (o := exo a (He.ga X.K x) (some d)) n2
      have x2 := (Ext.new (φ := φ) (o := exd d (fs.zip vs).reverse) dn).trans (Ext.new (φ := φ) (o := exo a (He.ga X.K x) (some d)) n2)
      have zr := zip_rev (fs := fs) (ys := vs) (by omega)
      refine o φ _ _ x2 s2 ⟨a, vs.reverse, rfl, s1.out na, .inr ⟨d, (fs.zip vs).reverse, upd_same, by rw [upd_ne dne, upd_same], s1.out dn, zr.1, zr.2⟩, (RVs.rev r1).mono x2⟩
    · exact (show False from o).elim
theorem zb3 {x : Str} {fs ns : List Str} (I : XcI X.prog X.w X.K X.mg X.base x fs) (hr : Room 2 X.A) (ha : JA X W C (e :: es) ees) (hns : ns = fs.reverse := by rfl) (hfs : fs ≠ [] := by decide) (hl9 : fs.length ≤ 9 := by decide) (hg : Gl X x := by rfl)
    (hdb : (x == ("__debug__" : Str)) = false := by decide) (he : starEach (e :: es) X.env = (false, eval e X.env) :: starEach es X.env := by rfl) (hpl : (backTo pos (starEach es X.env)).any (·.1) = false := by rfl) :
    JE X W C (.Call (.Name x p) (e :: es) [] pos) (.bi (.xmk x ns) ees) := by
  obtain ⟨fI, fd, ps, i1, i2, i3, i4⟩ := I.ini
  refine pe_imp (pe_oex I.T i1 i2 i3 hr i4 I.gl ha hg hdb he hpl) fun σ H Q ⟨ρ, φ, h, sm, re, o⟩ => ?_
  refine ⟨ρ, φ, h, sm, re, (Out.bind (rel2 := RVs (zOf X)) (show Out (zOf X) X.mg (RV (zOf X)) φ H (atS W σ) Q ((evGs C ees ρ h).bind fun l h1 => biXmk x ns l h1) from o)).imp fun vs H1 ⟨φ1, l, h1, x1, s1, r1, o1⟩ => ?_⟩
  obtain ⟨hv, m⟩ := exv_made hns hfs s1 r1 o1
  exact ⟨by omega, m⟩
theorem zbf {x : Str} {fs ns ks : List Str} (I : XcK X.prog X.w X.K X.mg X.base x fs ks) (hr : Room 2 X.A) (ha : JK X W C kws ees) (hns : ns = fs.reverse := by rfl) (hfs : fs ≠ [] := by decide) (hl : ks.length = fs.length := by rfl) (hg : Gl X x := by rfl)
    (hdb : (x == ("__debug__" : Str)) = false := by decide) (hall : (backToKw pos (keywordEach kws X.env)).all (·.1.isSome) = true := by rfl) (hks : (backToKw pos (keywordEach kws X.env)).filterMap (·.1) = ks := by rfl)
    (hpl : ((backTo pos (starEach [] X.env)).any (·.1) || (backToKw pos (keywordEach kws X.env)).any (·.1.isNone)) = false := by rfl) :
    JE X W C (.Call (.Name x p) [] kws pos) (.bi (.xmk x ns) ees) := by
  obtain ⟨fI, fd, ps, i1, i2, i3, i4⟩ := I.ini
  refine pe_imp (pe_oexK I.T i1 i2 i3 hr i4 I.gl ha hg hdb hall hks hpl) fun σ H Q ⟨ρ, φ, h, sm, re, o⟩ => ?_
  refine ⟨ρ, φ, h, sm, re, (Out.bind (rel2 := RVs (zOf X)) (show Out (zOf X) X.mg (RV (zOf X)) φ H (atS W σ) Q ((evGs C ees ρ h).bind fun l h1 => biXmk x ns l h1) from o)).imp fun vs H1 ⟨φ1, l, h1, x1, s1, r1, o1⟩ => ?_⟩
  obtain ⟨hv, m⟩ := exv_made hns hfs s1 r1 o1
  refine ⟨by rw [hl]; exact hv, fun a na => ?_⟩
  have : pick (List.range (fs.length + 1)) ([V.ref a] ++ vs) ++ [] = V.ref a :: vs := by
    rw [List.append_nil, ← hv]
    exact pick_range (V.ref a :: vs)
  rw [this]
  exact m a na
/-- a class without an own __init__, one argument -/
structure Xc1 (K : PySem.W.Frag) (mg : Str → Option Value) (x : Str) : Prop where
  gl : mg x = some (.ref (He.ga K x))
  q : PySem.W.excIn K (He.ga K x) He.veBase "ValueError.__new__" = true
  kC : PySem.W.keepIn K (.ref (He.ga K x)) = true
theorem je_xmk1 {x : Str} (I : Xc1 X.K X.mg x) (ha : JE X W C e ea) (hg : Gl X x := by rfl) (hdb : (x == ("__debug__" : Str)) = false := by decide) (hs : starEach [e] X.env = (false, eval e X.env) :: starEach [] X.env := by rfl) :
    JE X W C (.Call (.Name x p) [e] [] pos) (.bi (.xmk x []) [ea]) := by
  refine pe_imp (pe_exc1 F.excBase_ValueError I.q I.gl I.kC hg ha hs hdb) fun σ H Q ⟨ρ, φ, h, sm, re, o⟩ => ?_
  have o' : Out (zOf X) X.mg (RV (zOf X)) φ H (atS W σ) Q ((evG C ea false ρ h).bind fun v h1 => .ok (.exv x [] []) h1) := by
    have e1 : evG C (.bi (.xmk x []) [ea]) false ρ h = (evG C ea false ρ h).bind fun v h1 => .ok (.exv x [] []) h1 := by
      have e2 : evGs C [ea] ρ h = (evG C ea false ρ h).bind fun x h1 => .ok [x] h1 := rfl
      rw [evG, e2]
      cases evG C ea false ρ h <;> rfl
    rw [← e1]
    exact o
  refine ⟨ρ, φ, h, sm, re, (Out.bind (rel2 := RV (zOf X)) o').imp fun v H1 ⟨φ1, l, h1, x1, s1, r1, o1⟩ a na => ?_⟩
  exact o1 φ1 _ _ (Ext.new na) (s1.new na) ⟨a, [], rfl, s1.out na, .inl ⟨upd_same, rfl⟩, RVs.nil⟩
/-- no class of refusals has an attribute of a field's name -/
structure XaI (K : PySem.W.Frag) : Prop where
  c : ∀ x ∈ excAll, XfC K (He.ga K x) ∧ ∀ f ∈ xfAll, PySem.W.findIn K (.ref (He.ga K x)) f = some none
theorem je_xatA (T : XaI X.K) (ha : JE X W C a ea) (hb : attributeBase a f X.env (eval a X.env) = eval a X.env := by rfl) : JE X W C (.Attribute a f pos) (.bi (.xatA f) [ea]) := by
  refine ⟨fun pins s σ H Q I ht => ?_⟩
  obtain ⟨ρ, φ, h, sm, re, o⟩ := ht
  have o' : Out (zOf X) X.mg (RV (zOf X)) φ H (atS W σ) Q ((evG C ea false ρ h).bind fun v h1 => biXat f [v] h1) := by
    have e1 : evG C (.bi (.xatA f) [ea]) false ρ h = (evG C ea false ρ h).bind fun v h1 => biXat f [v] h1 := by
      have e2 : evGs C [ea] ρ h = (evG C ea false ρ h).bind fun x h1 => .ok [x] h1 := rfl
      rw [evG, e2]
      cases evG C ea false ρ h <;> rfl
    rw [← e1]
    exact o
  refine attr_of hb (thn (ha.run pins s σ H _ I ⟨ρ, φ, h, sm, re, Out.bind (rel2 := RV (zOf X)) o'⟩) fun u s1 hh => ?_)
  obtain ⟨v, H1, I1, rv, φ1, q, h1, x1, s1', rp, o3⟩ := hh
  cases q with
  | exv x ns vs =>
    unfold biXat at o3
    dsimp only at o3
    by_cases hx : x ∈ excAll ∧ f ∈ xfAll
    · rw [if_pos hx] at o3
      obtain ⟨T1, T2⟩ := T.c x hx.1
      obtain ⟨a, us, rfl, n, d, r⟩ := rp
      rcases d with ⟨q, z⟩ | ⟨dd, fs, q, q2, n2, z1, z2⟩
      · subst z
        exact (show False from o3).elim
      · subst z1 z2
        obtain rfl : u = Value.ref a := rv
        cases hl : ((fs.map (·.1)).zip vs).lookup f with
        | none => rw [hl] at o3; exact (show False from o3).elim
        | some p =>
          rw [hl] at o3
          obtain ⟨y, l1, r1⟩ := fl_lookup r hl
          obtain ⟨t1, ho⟩ := exo_at I1.hok q
          obtain ⟨mA, hns, hr⟩ := exd_at I1.hok q2
          obtain ⟨od, hod, hl2⟩ := lookIn_ns hns
          obtain ⟨uu, hu, ru⟩ := RelO.some_of (v := y) (o := mA f) (by rw [← l1]; exact hr f)
          have J : PySem.W.InstAt s1.heap a _ (He.ga X.K x) (some od) := ⟨ho, rfl, rfl, hod⟩
          exact HandSPX.exc_get I1.kIn J T1.ga T1.gg T1.exC (PySem.W.findObj_own T1.hdC (T2 f hx.2) rfl (by rw [hl2, hu])) (handed_of ru) ⟨y, H1, I1.tok _, ru, o3 φ1 H1 y (Ext.refl _ _) s1' r1⟩
    · rw [if_neg hx] at o3
      exact (show False from o3).elim
  | _ => exact (show False from o3).elim
end
theorem xaB_ok {K : PySem.W.Frag} (e : xaB K = true) : XaI K := ⟨fun x hx => by
  obtain ⟨z1, z2⟩ := He.ba (List.all_eq_true.mp e x hx)
  exact ⟨xfB_ok z1, fun f hf => He.eqO_ok (List.all_eq_true.mp z2 f hf)⟩⟩
theorem xc1_ok {K : PySem.W.Frag} {h : Heap} {mg : Str → Option Value} (X : K.In h) (G : h.Ns mainGlobals mg) {x : Str} (g : (He.Fa.glo x).ok K = true) (c : (He.Fa.exc x).ok K = true) : Xc1 K mg x :=
  ⟨He.glo_ok X G g, (He.exc_ok c).1, (He.exc_ok c).2.1⟩
end Sb
namespace Sb
open PySem PySem.Spec L2
abbrev N__law_start : List Str := ["_law_script", "_law_great", "_law_cell"]
theorem sc__law_start : FnScope N__law_start ["_law_script"] (defScope za7) := ⟨rfl, rfl, rfl, by decide +kernel, rfl, by decide +kernel, by decide +kernel⟩
abbrev N__law_draw : List Str := ["_law_state", "_law_many", "_law_told", "_law_size"]
theorem sc__law_draw : FnScope N__law_draw ["_law_state", "_law_many"] (defScope zbt) := ⟨rfl, rfl, rfl, by decide +kernel, rfl, by decide +kernel, by decide +kernel⟩
abbrev N__law_mix : List Str := ["_law_state", "_law_count", "_law_cell", "_law_one"]
theorem sc__law_mix : FnScope N__law_mix ["_law_state"] (defScope s__law_mix) := ⟨rfl, rfl, rfl, by decide +kernel, rfl, by decide +kernel, by decide +kernel⟩
abbrev N__law_same : List Str := ["_law_found", "_law_want", "_law_one", "_law_other"]
theorem sc__law_same : FnScope N__law_same ["_law_found", "_law_want"] (defScope zbj) := ⟨rfl, rfl, rfl, by decide +kernel, rfl, by decide +kernel, by decide +kernel⟩
abbrev N__law_alone : List Str := ["_law_e", "_law_found"]
theorem sc__law_alone : FnScope N__law_alone ["_law_e"] (defScope zbl) := ⟨rfl, rfl, rfl, by decide +kernel, rfl, by decide +kernel, by decide +kernel⟩
abbrev N__law_some_thing : List Str := ["_law_state"]
theorem sc__law_some_thing : FnScope N__law_some_thing ["_law_state"] (defScope zat) := ⟨rfl, rfl, rfl, by decide +kernel, rfl, by decide +kernel, by decide +kernel⟩
abbrev N__law_single : List Str := ["_law_way", "_law_one", "_law_single_here"]
theorem sc__law_single : FnScope N__law_single ["_law_way", "_law_one"] (defScope zbd) := ⟨rfl, rfl, rfl, by decide +kernel, rfl, by decide +kernel, by decide +kernel⟩
abbrev N__law_by_names : List Str := ["_law_way", "_law_one", "_law_other"]
theorem sc__law_by_names : FnScope N__law_by_names ["_law_way", "_law_one", "_law_other"] (defScope za0) := ⟨rfl, rfl, rfl, by decide +kernel, rfl, by decide +kernel, by decide +kernel⟩
abbrev N__law_by_places : List Str := ["_law_way", "_law_one", "_law_other", "_law_both", "_law_single_here", "_law_bare"]
theorem sc__law_by_places : FnScope N__law_by_places ["_law_way", "_law_one", "_law_other"] (defScope zaw) := ⟨rfl, rfl, rfl, by decide +kernel, rfl, by decide +kernel, by decide +kernel⟩
abbrev N__law_fields : List Str := ["_law_e", "_law_way"]
theorem sc__law_fields : FnScope N__law_fields ["_law_e", "_law_way"] (defScope zbe) := ⟨rfl, rfl, rfl, by decide +kernel, rfl, by decide +kernel, by decide +kernel⟩
abbrev N__law_mine : List Str := ["_law_e", "_law_found", "_law_k"]
theorem sc__law_mine : FnScope N__law_mine ["_law_e"] (defScope zbk) := ⟨rfl, rfl, rfl, by decide +kernel, rfl, by decide +kernel, by decide +kernel⟩
abbrev N_law : List Str := ["_law_script", "_law_state", "_law_k", "_law_way", "_law_one", "_law_other", "_law_e", "_law_fields_here"]
theorem sc_law : FnScope N_law ["_law_script"] (defScope s_law) := ⟨rfl, rfl, rfl, by decide +kernel, rfl, by decide +kernel, by decide +kernel⟩
theorem sc_BadName_init : FnScope ["self", "name"] ["self", "name"] (defScope zbh) := ⟨rfl, rfl, rfl, by decide +kernel, rfl, by decide +kernel, by decide +kernel⟩
theorem in_BadName {P : Program} {w : World} {K : PySem.W.Frag} {mg : Str → Option Value} {base : Heap} {fa : Addr} (B : BkI K mg "BookError") : ∀ (cdv : Value) (A : Around) (outer : List PySem.Env) (s : Shared) (H : Hp) (E : XK), PSs (cxOf (L2N.CX P w) P w K mg base ["self", "name"] "BadName.__init__" (defScope zbh) fa cdv A outer s H E) (defBody zbh) (tSeq (tI0 K "no name") (tSeq (tOst K "name" (tVar 0) (tVar 1)) tNext)) :=
  fun _ _ _ _ _ _ => pss_cons (ps_expr (zax B (pa_cons (pe_var (i := 0) rfl (by first | exact Or.inl rfl | exact Or.inr (Or.inl rfl) | exact Or.inr (Or.inr rfl))) (pa_cons pe_str pa_nil)))) (pss_cons (ps_ost (pe_var (i := 0) rfl (by first | exact Or.inl rfl | exact Or.inr (Or.inl rfl) | exact Or.inr (Or.inr rfl))) (pe_var (i := 1) rfl (by first | exact Or.inl rfl | exact Or.inr (Or.inl rfl) | exact Or.inr (Or.inr rfl)))) pss_nil)
theorem sc_BadWeight_init : FnScope ["self", "weight"] ["self", "weight"] (defScope za6) := ⟨rfl, rfl, rfl, by decide +kernel, rfl, by decide +kernel, by decide +kernel⟩
theorem in_BadWeight {P : Program} {w : World} {K : PySem.W.Frag} {mg : Str → Option Value} {base : Heap} {fa : Addr} (B : BkI K mg "BookError") : ∀ (cdv : Value) (A : Around) (outer : List PySem.Env) (s : Shared) (H : Hp) (E : XK), PSs (cxOf (L2N.CX P w) P w K mg base ["self", "weight"] "BadWeight.__init__" (defScope za6) fa cdv A outer s H E) (defBody za6) (tSeq (tI0 K "no weight") (tSeq (tOst K "weight" (tVar 0) (tVar 1)) tNext)) :=
  fun _ _ _ _ _ _ => pss_cons (ps_expr (zax B (pa_cons (pe_var (i := 0) rfl (by first | exact Or.inl rfl | exact Or.inr (Or.inl rfl) | exact Or.inr (Or.inr rfl))) (pa_cons pe_str pa_nil)))) (pss_cons (ps_ost (pe_var (i := 0) rfl (by first | exact Or.inl rfl | exact Or.inr (Or.inl rfl) | exact Or.inr (Or.inr rfl))) (pe_var (i := 1) rfl (by first | exact Or.inl rfl | exact Or.inr (Or.inl rfl) | exact Or.inr (Or.inr rfl)))) pss_nil)
theorem sc_Clash_init : FnScope ["self", "kind", "name"] ["self", "kind", "name"] (defScope zbz) := ⟨rfl, rfl, rfl, by decide +kernel, rfl, by decide +kernel, by decide +kernel⟩
theorem in_Clash {P : Program} {w : World} {K : PySem.W.Frag} {mg : Str → Option Value} {base : Heap} {fa : Addr} (B : BkI K mg "BookError") : ∀ (cdv : Value) (A : Around) (outer : List PySem.Env) (s : Shared) (H : Hp) (E : XK), PSs (cxOf (L2N.CX P w) P w K mg base ["self", "kind", "name"] "Clash.__init__" (defScope zbz) fa cdv A outer s H E) (defBody zbz) (tSeq (tI0 K "a clash") (tSeq (tOst K "kind" (tVar 0) (tVar 1)) (tSeq (tOst K "name" (tVar 0) (tVar 2)) tNext))) :=
  fun _ _ _ _ _ _ => pss_cons (ps_expr (zax B (pa_cons (pe_var (i := 0) rfl (by first | exact Or.inl rfl | exact Or.inr (Or.inl rfl) | exact Or.inr (Or.inr rfl))) (pa_cons pe_str pa_nil)))) (pss_cons (ps_ost (pe_var (i := 0) rfl (by first | exact Or.inl rfl | exact Or.inr (Or.inl rfl) | exact Or.inr (Or.inr rfl))) (pe_var (i := 1) rfl (by first | exact Or.inl rfl | exact Or.inr (Or.inl rfl) | exact Or.inr (Or.inr rfl)))) (pss_cons (ps_ost (pe_var (i := 0) rfl (by first | exact Or.inl rfl | exact Or.inr (Or.inl rfl) | exact Or.inr (Or.inr rfl))) (pe_var (i := 2) rfl (by first | exact Or.inl rfl | exact Or.inr (Or.inl rfl) | exact Or.inr (Or.inr rfl)))) pss_nil))
theorem sc_Far_init : FnScope ["self", "kind", "name"] ["self", "kind", "name"] (defScope s_Far_init) := ⟨rfl, rfl, rfl, by decide +kernel, rfl, by decide +kernel, by decide +kernel⟩
theorem in_Far {P : Program} {w : World} {K : PySem.W.Frag} {mg : Str → Option Value} {base : Heap} {fa : Addr} (B : BkI K mg "BookError") : ∀ (cdv : Value) (A : Around) (outer : List PySem.Env) (s : Shared) (H : Hp) (E : XK), PSs (cxOf (L2N.CX P w) P w K mg base ["self", "kind", "name"] "Far.__init__" (defScope s_Far_init) fa cdv A outer s H E) (defBody s_Far_init) (tSeq (tI0 K "too far") (tSeq (tOst K "kind" (tVar 0) (tVar 1)) (tSeq (tOst K "name" (tVar 0) (tVar 2)) tNext))) :=
  fun _ _ _ _ _ _ => pss_cons (ps_expr (zax B (pa_cons (pe_var (i := 0) rfl (by first | exact Or.inl rfl | exact Or.inr (Or.inl rfl) | exact Or.inr (Or.inr rfl))) (pa_cons pe_str pa_nil)))) (pss_cons (ps_ost (pe_var (i := 0) rfl (by first | exact Or.inl rfl | exact Or.inr (Or.inl rfl) | exact Or.inr (Or.inr rfl))) (pe_var (i := 1) rfl (by first | exact Or.inl rfl | exact Or.inr (Or.inl rfl) | exact Or.inr (Or.inr rfl)))) (pss_cons (ps_ost (pe_var (i := 0) rfl (by first | exact Or.inl rfl | exact Or.inr (Or.inl rfl) | exact Or.inr (Or.inr rfl))) (pe_var (i := 2) rfl (by first | exact Or.inl rfl | exact Or.inr (Or.inl rfl) | exact Or.inr (Or.inr rfl)))) pss_nil))
theorem sc_Flat_init : FnScope ["self", "a"] ["self", "a"] (defScope s_Flat_init) := ⟨rfl, rfl, rfl, by decide +kernel, rfl, by decide +kernel, by decide +kernel⟩
theorem in_Flat {P : Program} {w : World} {K : PySem.W.Frag} {mg : Str → Option Value} {base : Heap} {fa : Addr} (B : BkI K mg "BookError") : ∀ (cdv : Value) (A : Around) (outer : List PySem.Env) (s : Shared) (H : Hp) (E : XK), PSs (cxOf (L2N.CX P w) P w K mg base ["self", "a"] "Flat.__init__" (defScope s_Flat_init) fa cdv A outer s H E) (defBody s_Flat_init) (tSeq (tI0 K "flat") (tSeq (tOst K "a" (tVar 0) (tVar 1)) tNext)) :=
  fun _ _ _ _ _ _ => pss_cons (ps_expr (zax B (pa_cons (pe_var (i := 0) rfl (by first | exact Or.inl rfl | exact Or.inr (Or.inl rfl) | exact Or.inr (Or.inr rfl))) (pa_cons pe_str pa_nil)))) (pss_cons (ps_ost (pe_var (i := 0) rfl (by first | exact Or.inl rfl | exact Or.inr (Or.inl rfl) | exact Or.inr (Or.inr rfl))) (pe_var (i := 1) rfl (by first | exact Or.inl rfl | exact Or.inr (Or.inl rfl) | exact Or.inr (Or.inr rfl)))) pss_nil)
theorem sc_Full_init : FnScope ["self", "kind"] ["self", "kind"] (defScope s_Full_init) := ⟨rfl, rfl, rfl, by decide +kernel, rfl, by decide +kernel, by decide +kernel⟩
theorem in_Full {P : Program} {w : World} {K : PySem.W.Frag} {mg : Str → Option Value} {base : Heap} {fa : Addr} (B : BkI K mg "BookError") : ∀ (cdv : Value) (A : Around) (outer : List PySem.Env) (s : Shared) (H : Hp) (E : XK), PSs (cxOf (L2N.CX P w) P w K mg base ["self", "kind"] "Full.__init__" (defScope s_Full_init) fa cdv A outer s H E) (defBody s_Full_init) (tSeq (tI0 K "full") (tSeq (tOst K "kind" (tVar 0) (tVar 1)) tNext)) :=
  fun _ _ _ _ _ _ => pss_cons (ps_expr (zax B (pa_cons (pe_var (i := 0) rfl (by first | exact Or.inl rfl | exact Or.inr (Or.inl rfl) | exact Or.inr (Or.inr rfl))) (pa_cons pe_str pa_nil)))) (pss_cons (ps_ost (pe_var (i := 0) rfl (by first | exact Or.inl rfl | exact Or.inr (Or.inl rfl) | exact Or.inr (Or.inr rfl))) (pe_var (i := 1) rfl (by first | exact Or.inl rfl | exact Or.inr (Or.inl rfl) | exact Or.inr (Or.inr rfl)))) pss_nil)
theorem sc_InUse_init : FnScope ["self", "kind", "name"] ["self", "kind", "name"] (defScope zby) := ⟨rfl, rfl, rfl, by decide +kernel, rfl, by decide +kernel, by decide +kernel⟩
theorem in_InUse {P : Program} {w : World} {K : PySem.W.Frag} {mg : Str → Option Value} {base : Heap} {fa : Addr} (B : BkI K mg "BookError") : ∀ (cdv : Value) (A : Around) (outer : List PySem.Env) (s : Shared) (H : Hp) (E : XK), PSs (cxOf (L2N.CX P w) P w K mg base ["self", "kind", "name"] "InUse.__init__" (defScope zby) fa cdv A outer s H E) (defBody zby) (tSeq (tI0 K "in use") (tSeq (tOst K "kind" (tVar 0) (tVar 1)) (tSeq (tOst K "name" (tVar 0) (tVar 2)) tNext))) :=
  fun _ _ _ _ _ _ => pss_cons (ps_expr (zax B (pa_cons (pe_var (i := 0) rfl (by first | exact Or.inl rfl | exact Or.inr (Or.inl rfl) | exact Or.inr (Or.inr rfl))) (pa_cons pe_str pa_nil)))) (pss_cons (ps_ost (pe_var (i := 0) rfl (by first | exact Or.inl rfl | exact Or.inr (Or.inl rfl) | exact Or.inr (Or.inr rfl))) (pe_var (i := 1) rfl (by first | exact Or.inl rfl | exact Or.inr (Or.inl rfl) | exact Or.inr (Or.inr rfl)))) (pss_cons (ps_ost (pe_var (i := 0) rfl (by first | exact Or.inl rfl | exact Or.inr (Or.inl rfl) | exact Or.inr (Or.inr rfl))) (pe_var (i := 2) rfl (by first | exact Or.inl rfl | exact Or.inr (Or.inl rfl) | exact Or.inr (Or.inr rfl)))) pss_nil))
theorem sc_NoBook_init : FnScope ["self", "name"] ["self", "name"] (defScope zbo) := ⟨rfl, rfl, rfl, by decide +kernel, rfl, by decide +kernel, by decide +kernel⟩
theorem in_NoBook {P : Program} {w : World} {K : PySem.W.Frag} {mg : Str → Option Value} {base : Heap} {fa : Addr} (B : BkI K mg "BookError") : ∀ (cdv : Value) (A : Around) (outer : List PySem.Env) (s : Shared) (H : Hp) (E : XK), PSs (cxOf (L2N.CX P w) P w K mg base ["self", "name"] "NoBook.__init__" (defScope zbo) fa cdv A outer s H E) (defBody zbo) (tSeq (tI0 K "no book") (tSeq (tOst K "name" (tVar 0) (tVar 1)) tNext)) :=
  fun _ _ _ _ _ _ => pss_cons (ps_expr (zax B (pa_cons (pe_var (i := 0) rfl (by first | exact Or.inl rfl | exact Or.inr (Or.inl rfl) | exact Or.inr (Or.inr rfl))) (pa_cons pe_str pa_nil)))) (pss_cons (ps_ost (pe_var (i := 0) rfl (by first | exact Or.inl rfl | exact Or.inr (Or.inl rfl) | exact Or.inr (Or.inr rfl))) (pe_var (i := 1) rfl (by first | exact Or.inl rfl | exact Or.inr (Or.inl rfl) | exact Or.inr (Or.inr rfl)))) pss_nil)
theorem sc_NoBottom_init : FnScope ["self", "top"] ["self", "top"] (defScope zbc) := ⟨rfl, rfl, rfl, by decide +kernel, rfl, by decide +kernel, by decide +kernel⟩
theorem in_NoBottom {P : Program} {w : World} {K : PySem.W.Frag} {mg : Str → Option Value} {base : Heap} {fa : Addr} (B : BkI K mg "BookError") : ∀ (cdv : Value) (A : Around) (outer : List PySem.Env) (s : Shared) (H : Hp) (E : XK), PSs (cxOf (L2N.CX P w) P w K mg base ["self", "top"] "NoBottom.__init__" (defScope zbc) fa cdv A outer s H E) (defBody zbc) (tSeq (tI0 K "no bottom") (tSeq (tOst K "top" (tVar 0) (tVar 1)) tNext)) :=
  fun _ _ _ _ _ _ => pss_cons (ps_expr (zax B (pa_cons (pe_var (i := 0) rfl (by first | exact Or.inl rfl | exact Or.inr (Or.inl rfl) | exact Or.inr (Or.inr rfl))) (pa_cons pe_str pa_nil)))) (pss_cons (ps_ost (pe_var (i := 0) rfl (by first | exact Or.inl rfl | exact Or.inr (Or.inl rfl) | exact Or.inr (Or.inr rfl))) (pe_var (i := 1) rfl (by first | exact Or.inl rfl | exact Or.inr (Or.inl rfl) | exact Or.inr (Or.inr rfl)))) pss_nil)
theorem sc_NoSuch_init : FnScope ["self", "kind", "name"] ["self", "kind", "name"] (defScope zbn) := ⟨rfl, rfl, rfl, by decide +kernel, rfl, by decide +kernel, by decide +kernel⟩
theorem in_NoSuch {P : Program} {w : World} {K : PySem.W.Frag} {mg : Str → Option Value} {base : Heap} {fa : Addr} (B : BkI K mg "BookError") : ∀ (cdv : Value) (A : Around) (outer : List PySem.Env) (s : Shared) (H : Hp) (E : XK), PSs (cxOf (L2N.CX P w) P w K mg base ["self", "kind", "name"] "NoSuch.__init__" (defScope zbn) fa cdv A outer s H E) (defBody zbn) (tSeq (tI0 K "no such thing") (tSeq (tOst K "kind" (tVar 0) (tVar 1)) (tSeq (tOst K "name" (tVar 0) (tVar 2)) tNext))) :=
  fun _ _ _ _ _ _ => pss_cons (ps_expr (zax B (pa_cons (pe_var (i := 0) rfl (by first | exact Or.inl rfl | exact Or.inr (Or.inl rfl) | exact Or.inr (Or.inr rfl))) (pa_cons pe_str pa_nil)))) (pss_cons (ps_ost (pe_var (i := 0) rfl (by first | exact Or.inl rfl | exact Or.inr (Or.inl rfl) | exact Or.inr (Or.inr rfl))) (pe_var (i := 1) rfl (by first | exact Or.inl rfl | exact Or.inr (Or.inl rfl) | exact Or.inr (Or.inr rfl)))) (pss_cons (ps_ost (pe_var (i := 0) rfl (by first | exact Or.inl rfl | exact Or.inr (Or.inl rfl) | exact Or.inr (Or.inr rfl))) (pe_var (i := 2) rfl (by first | exact Or.inl rfl | exact Or.inr (Or.inl rfl) | exact Or.inr (Or.inr rfl)))) pss_nil))
theorem sc_NoTelling_init : FnScope ["self", "name"] ["self", "name"] (defScope za5) := ⟨rfl, rfl, rfl, by decide +kernel, rfl, by decide +kernel, by decide +kernel⟩
theorem in_NoTelling {P : Program} {w : World} {K : PySem.W.Frag} {mg : Str → Option Value} {base : Heap} {fa : Addr} (B : BkI K mg "BookError") : ∀ (cdv : Value) (A : Around) (outer : List PySem.Env) (s : Shared) (H : Hp) (E : XK), PSs (cxOf (L2N.CX P w) P w K mg base ["self", "name"] "NoTelling.__init__" (defScope za5) fa cdv A outer s H E) (defBody za5) (tSeq (tI0 K "no telling") (tSeq (tOst K "name" (tVar 0) (tVar 1)) tNext)) :=
  fun _ _ _ _ _ _ => pss_cons (ps_expr (zax B (pa_cons (pe_var (i := 0) rfl (by first | exact Or.inl rfl | exact Or.inr (Or.inl rfl) | exact Or.inr (Or.inr rfl))) (pa_cons pe_str pa_nil)))) (pss_cons (ps_ost (pe_var (i := 0) rfl (by first | exact Or.inl rfl | exact Or.inr (Or.inl rfl) | exact Or.inr (Or.inr rfl))) (pe_var (i := 1) rfl (by first | exact Or.inl rfl | exact Or.inr (Or.inl rfl) | exact Or.inr (Or.inr rfl)))) pss_nil)
theorem sc_NoText_init : FnScope ["self", "row"] ["self", "row"] (defScope zbm) := ⟨rfl, rfl, rfl, by decide +kernel, rfl, by decide +kernel, by decide +kernel⟩
theorem in_NoText {P : Program} {w : World} {K : PySem.W.Frag} {mg : Str → Option Value} {base : Heap} {fa : Addr} (B : BkI K mg "BookError") : ∀ (cdv : Value) (A : Around) (outer : List PySem.Env) (s : Shared) (H : Hp) (E : XK), PSs (cxOf (L2N.CX P w) P w K mg base ["self", "row"] "NoText.__init__" (defScope zbm) fa cdv A outer s H E) (defBody zbm) (tSeq (tI0 K "no text") (tSeq (tOst K "row" (tVar 0) (tVar 1)) tNext)) :=
  fun _ _ _ _ _ _ => pss_cons (ps_expr (zax B (pa_cons (pe_var (i := 0) rfl (by first | exact Or.inl rfl | exact Or.inr (Or.inl rfl) | exact Or.inr (Or.inr rfl))) (pa_cons pe_str pa_nil)))) (pss_cons (ps_ost (pe_var (i := 0) rfl (by first | exact Or.inl rfl | exact Or.inr (Or.inl rfl) | exact Or.inr (Or.inr rfl))) (pe_var (i := 1) rfl (by first | exact Or.inl rfl | exact Or.inr (Or.inl rfl) | exact Or.inr (Or.inr rfl)))) pss_nil)
theorem sc_NoTie_init : FnScope ["self", "name"] ["self", "name"] (defScope zbx) := ⟨rfl, rfl, rfl, by decide +kernel, rfl, by decide +kernel, by decide +kernel⟩
theorem in_NoTie {P : Program} {w : World} {K : PySem.W.Frag} {mg : Str → Option Value} {base : Heap} {fa : Addr} (B : BkI K mg "BookError") : ∀ (cdv : Value) (A : Around) (outer : List PySem.Env) (s : Shared) (H : Hp) (E : XK), PSs (cxOf (L2N.CX P w) P w K mg base ["self", "name"] "NoTie.__init__" (defScope zbx) fa cdv A outer s H E) (defBody zbx) (tSeq (tI0 K "no tie") (tSeq (tOst K "name" (tVar 0) (tVar 1)) tNext)) :=
  fun _ _ _ _ _ _ => pss_cons (ps_expr (zax B (pa_cons (pe_var (i := 0) rfl (by first | exact Or.inl rfl | exact Or.inr (Or.inl rfl) | exact Or.inr (Or.inr rfl))) (pa_cons pe_str pa_nil)))) (pss_cons (ps_ost (pe_var (i := 0) rfl (by first | exact Or.inl rfl | exact Or.inr (Or.inl rfl) | exact Or.inr (Or.inr rfl))) (pe_var (i := 1) rfl (by first | exact Or.inl rfl | exact Or.inr (Or.inl rfl) | exact Or.inr (Or.inr rfl)))) pss_nil)
theorem sc_NotJoined_init : FnScope ["self", "start", "end"] ["self", "start", "end"] (defScope za4) := ⟨rfl, rfl, rfl, by decide +kernel, rfl, by decide +kernel, by decide +kernel⟩
theorem in_NotJoined {P : Program} {w : World} {K : PySem.W.Frag} {mg : Str → Option Value} {base : Heap} {fa : Addr} (B : BkI K mg "BookError") : ∀ (cdv : Value) (A : Around) (outer : List PySem.Env) (s : Shared) (H : Hp) (E : XK), PSs (cxOf (L2N.CX P w) P w K mg base ["self", "start", "end"] "NotJoined.__init__" (defScope za4) fa cdv A outer s H E) (defBody za4) (tSeq (tI0 K "not joined") (tSeq (tOst K "start" (tVar 0) (tVar 1)) (tSeq (tOst K "end" (tVar 0) (tVar 2)) tNext))) :=
  fun _ _ _ _ _ _ => pss_cons (ps_expr (zax B (pa_cons (pe_var (i := 0) rfl (by first | exact Or.inl rfl | exact Or.inr (Or.inl rfl) | exact Or.inr (Or.inr rfl))) (pa_cons pe_str pa_nil)))) (pss_cons (ps_ost (pe_var (i := 0) rfl (by first | exact Or.inl rfl | exact Or.inr (Or.inl rfl) | exact Or.inr (Or.inr rfl))) (pe_var (i := 1) rfl (by first | exact Or.inl rfl | exact Or.inr (Or.inl rfl) | exact Or.inr (Or.inr rfl)))) (pss_cons (ps_ost (pe_var (i := 0) rfl (by first | exact Or.inl rfl | exact Or.inr (Or.inl rfl) | exact Or.inr (Or.inr rfl))) (pe_var (i := 2) rfl (by first | exact Or.inl rfl | exact Or.inr (Or.inl rfl) | exact Or.inr (Or.inr rfl)))) pss_nil))
theorem sc_NotSheer_init : FnScope ["self", "part"] ["self", "part"] (defScope zbb) := ⟨rfl, rfl, rfl, by decide +kernel, rfl, by decide +kernel, by decide +kernel⟩
theorem in_NotSheer {P : Program} {w : World} {K : PySem.W.Frag} {mg : Str → Option Value} {base : Heap} {fa : Addr} (B : BkI K mg "BookError") : ∀ (cdv : Value) (A : Around) (outer : List PySem.Env) (s : Shared) (H : Hp) (E : XK), PSs (cxOf (L2N.CX P w) P w K mg base ["self", "part"] "NotSheer.__init__" (defScope zbb) fa cdv A outer s H E) (defBody zbb) (tSeq (tI0 K "not sheer") (tSeq (tOst K "part" (tVar 0) (tVar 1)) tNext)) :=
  fun _ _ _ _ _ _ => pss_cons (ps_expr (zax B (pa_cons (pe_var (i := 0) rfl (by first | exact Or.inl rfl | exact Or.inr (Or.inl rfl) | exact Or.inr (Or.inr rfl))) (pa_cons pe_str pa_nil)))) (pss_cons (ps_ost (pe_var (i := 0) rfl (by first | exact Or.inl rfl | exact Or.inr (Or.inl rfl) | exact Or.inr (Or.inr rfl))) (pe_var (i := 1) rfl (by first | exact Or.inl rfl | exact Or.inr (Or.inl rfl) | exact Or.inr (Or.inr rfl)))) pss_nil)
theorem sc_NotVouched_init : FnScope ["self", "voucher", "name"] ["self", "voucher", "name"] (defScope zaz) := ⟨rfl, rfl, rfl, by decide +kernel, rfl, by decide +kernel, by decide +kernel⟩
theorem in_NotVouched {P : Program} {w : World} {K : PySem.W.Frag} {mg : Str → Option Value} {base : Heap} {fa : Addr} (B : BkI K mg "BookError") : ∀ (cdv : Value) (A : Around) (outer : List PySem.Env) (s : Shared) (H : Hp) (E : XK), PSs (cxOf (L2N.CX P w) P w K mg base ["self", "voucher", "name"] "NotVouched.__init__" (defScope zaz) fa cdv A outer s H E) (defBody zaz) (tSeq (tI0 K "not vouched") (tSeq (tOst K "voucher" (tVar 0) (tVar 1)) (tSeq (tOst K "name" (tVar 0) (tVar 2)) tNext))) :=
  fun _ _ _ _ _ _ => pss_cons (ps_expr (zax B (pa_cons (pe_var (i := 0) rfl (by first | exact Or.inl rfl | exact Or.inr (Or.inl rfl) | exact Or.inr (Or.inr rfl))) (pa_cons pe_str pa_nil)))) (pss_cons (ps_ost (pe_var (i := 0) rfl (by first | exact Or.inl rfl | exact Or.inr (Or.inl rfl) | exact Or.inr (Or.inr rfl))) (pe_var (i := 1) rfl (by first | exact Or.inl rfl | exact Or.inr (Or.inl rfl) | exact Or.inr (Or.inr rfl)))) (pss_cons (ps_ost (pe_var (i := 0) rfl (by first | exact Or.inl rfl | exact Or.inr (Or.inl rfl) | exact Or.inr (Or.inr rfl))) (pe_var (i := 2) rfl (by first | exact Or.inl rfl | exact Or.inr (Or.inl rfl) | exact Or.inr (Or.inr rfl)))) pss_nil))
theorem sc_SameScale_init : FnScope ["self", "name"] ["self", "name"] (defScope za3) := ⟨rfl, rfl, rfl, by decide +kernel, rfl, by decide +kernel, by decide +kernel⟩
theorem in_SameScale {P : Program} {w : World} {K : PySem.W.Frag} {mg : Str → Option Value} {base : Heap} {fa : Addr} (B : BkI K mg "BookError") : ∀ (cdv : Value) (A : Around) (outer : List PySem.Env) (s : Shared) (H : Hp) (E : XK), PSs (cxOf (L2N.CX P w) P w K mg base ["self", "name"] "SameScale.__init__" (defScope za3) fa cdv A outer s H E) (defBody za3) (tSeq (tI0 K "the same scale") (tSeq (tOst K "name" (tVar 0) (tVar 1)) tNext)) :=
  fun _ _ _ _ _ _ => pss_cons (ps_expr (zax B (pa_cons (pe_var (i := 0) rfl (by first | exact Or.inl rfl | exact Or.inr (Or.inl rfl) | exact Or.inr (Or.inr rfl))) (pa_cons pe_str pa_nil)))) (pss_cons (ps_ost (pe_var (i := 0) rfl (by first | exact Or.inl rfl | exact Or.inr (Or.inl rfl) | exact Or.inr (Or.inr rfl))) (pe_var (i := 1) rfl (by first | exact Or.inl rfl | exact Or.inr (Or.inl rfl) | exact Or.inr (Or.inr rfl)))) pss_nil)
theorem sc_Taken_init : FnScope ["self", "kind", "name"] ["self", "kind", "name"] (defScope zbw) := ⟨rfl, rfl, rfl, by decide +kernel, rfl, by decide +kernel, by decide +kernel⟩
theorem in_Taken {P : Program} {w : World} {K : PySem.W.Frag} {mg : Str → Option Value} {base : Heap} {fa : Addr} (B : BkI K mg "BookError") : ∀ (cdv : Value) (A : Around) (outer : List PySem.Env) (s : Shared) (H : Hp) (E : XK), PSs (cxOf (L2N.CX P w) P w K mg base ["self", "kind", "name"] "Taken.__init__" (defScope zbw) fa cdv A outer s H E) (defBody zbw) (tSeq (tI0 K "taken") (tSeq (tOst K "kind" (tVar 0) (tVar 1)) (tSeq (tOst K "name" (tVar 0) (tVar 2)) tNext))) :=
  fun _ _ _ _ _ _ => pss_cons (ps_expr (zax B (pa_cons (pe_var (i := 0) rfl (by first | exact Or.inl rfl | exact Or.inr (Or.inl rfl) | exact Or.inr (Or.inr rfl))) (pa_cons pe_str pa_nil)))) (pss_cons (ps_ost (pe_var (i := 0) rfl (by first | exact Or.inl rfl | exact Or.inr (Or.inl rfl) | exact Or.inr (Or.inr rfl))) (pe_var (i := 1) rfl (by first | exact Or.inl rfl | exact Or.inr (Or.inl rfl) | exact Or.inr (Or.inr rfl)))) (pss_cons (ps_ost (pe_var (i := 0) rfl (by first | exact Or.inl rfl | exact Or.inr (Or.inl rfl) | exact Or.inr (Or.inr rfl))) (pe_var (i := 2) rfl (by first | exact Or.inl rfl | exact Or.inr (Or.inl rfl) | exact Or.inr (Or.inr rfl)))) pss_nil))
theorem sc_Vouched_init : FnScope ["self", "voucher", "name"] ["self", "voucher", "name"] (defScope zbg) := ⟨rfl, rfl, rfl, by decide +kernel, rfl, by decide +kernel, by decide +kernel⟩
theorem in_Vouched {P : Program} {w : World} {K : PySem.W.Frag} {mg : Str → Option Value} {base : Heap} {fa : Addr} (B : BkI K mg "BookError") : ∀ (cdv : Value) (A : Around) (outer : List PySem.Env) (s : Shared) (H : Hp) (E : XK), PSs (cxOf (L2N.CX P w) P w K mg base ["self", "voucher", "name"] "Vouched.__init__" (defScope zbg) fa cdv A outer s H E) (defBody zbg) (tSeq (tI0 K "vouched") (tSeq (tOst K "voucher" (tVar 0) (tVar 1)) (tSeq (tOst K "name" (tVar 0) (tVar 2)) tNext))) :=
  fun _ _ _ _ _ _ => pss_cons (ps_expr (zax B (pa_cons (pe_var (i := 0) rfl (by first | exact Or.inl rfl | exact Or.inr (Or.inl rfl) | exact Or.inr (Or.inr rfl))) (pa_cons pe_str pa_nil)))) (pss_cons (ps_ost (pe_var (i := 0) rfl (by first | exact Or.inl rfl | exact Or.inr (Or.inl rfl) | exact Or.inr (Or.inr rfl))) (pe_var (i := 1) rfl (by first | exact Or.inl rfl | exact Or.inr (Or.inl rfl) | exact Or.inr (Or.inr rfl)))) (pss_cons (ps_ost (pe_var (i := 0) rfl (by first | exact Or.inl rfl | exact Or.inr (Or.inl rfl) | exact Or.inr (Or.inr rfl))) (pe_var (i := 2) rfl (by first | exact Or.inl rfl | exact Or.inr (Or.inl rfl) | exact Or.inr (Or.inr rfl)))) pss_nil))
structure Fcts (K : PySem.W.Frag) (mg : Str → Option Value) : Prop where
  fr_ValueError : mg "ValueError" = none
  fr_all : mg "all" = none
  fr_bool : mg "bool" = none
  fr_int : mg "int" = none
  fr_isinstance : mg "isinstance" = none
  fr_len : mg "len" = none
  fr_list : mg "list" = none
  fr_range : mg "range" = none
  fr_str : mg "str" = none
  fr_tuple : mg "tuple" = none
  fr_zip : mg "zip" = none
  cl_BadName : mg "BadName" = some (.ref (He.ga K "BadName"))
  cl_BadWeight : mg "BadWeight" = some (.ref (He.ga K "BadWeight"))
  cl_BookError : mg "BookError" = some (.ref (He.ga K "BookError"))
  cl_Clash : mg "Clash" = some (.ref (He.ga K "Clash"))
  cl_Far : mg "Far" = some (.ref (He.ga K "Far"))
  cl_Flat : mg "Flat" = some (.ref (He.ga K "Flat"))
  cl_Full : mg "Full" = some (.ref (He.ga K "Full"))
  cl_InUse : mg "InUse" = some (.ref (He.ga K "InUse"))
  cl_NoBook : mg "NoBook" = some (.ref (He.ga K "NoBook"))
  cl_NoBottom : mg "NoBottom" = some (.ref (He.ga K "NoBottom"))
  cl_NoLevel : mg "NoLevel" = some (.ref (He.ga K "NoLevel"))
  cl_NoLine : mg "NoLine" = some (.ref (He.ga K "NoLine"))
  cl_NoSuch : mg "NoSuch" = some (.ref (He.ga K "NoSuch"))
  cl_NoTelling : mg "NoTelling" = some (.ref (He.ga K "NoTelling"))
  cl_NoText : mg "NoText" = some (.ref (He.ga K "NoText"))
  cl_NoTie : mg "NoTie" = some (.ref (He.ga K "NoTie"))
  cl_NotJoined : mg "NotJoined" = some (.ref (He.ga K "NotJoined"))
  cl_NotSheer : mg "NotSheer" = some (.ref (He.ga K "NotSheer"))
  cl_NotVouched : mg "NotVouched" = some (.ref (He.ga K "NotVouched"))
  cl_NothingDone : mg "NothingDone" = some (.ref (He.ga K "NothingDone"))
  cl_SameScale : mg "SameScale" = some (.ref (He.ga K "SameScale"))
  cl_Taken : mg "Taken" = some (.ref (He.ga K "Taken"))
  cl_Vouched : mg "Vouched" = some (.ref (He.ga K "Vouched"))
  xk : XkI K
  c1_NoLevel : Xc1 K mg "NoLevel"
  c1_NoLine : Xc1 K mg "NoLine"
  c1_NothingDone : Xc1 K mg "NothingDone"
  xa : XaI K
structure Fns (P : Program) (w : World) (K : PySem.W.Frag) (mg : Str → Option Value) (base : Heap) (k : Nat) : Prop where
  g__law_start : FnI P w K mg base (call tbl k) k "_law_start" 4 1 []
  g__law_draw : FnI P w K mg base (call tbl k) k "_law_draw" 6 2 []
  g__law_mix : FnI P w K mg base (call tbl k) k "_law_mix" 5 1 []
  g__law_same : FnI P w K mg base (call tbl k) k "_law_same" 7 2 []
  g__law_alone : FnI P w K mg base (call tbl k) k "_law_alone" 77 1 []
  g__law_some_thing : FnI P w K mg base (call tbl k) k "_law_some_thing" 143 1 []
  g__law_single : FnI P w K mg base (call tbl k) k "_law_single" 447 2 []
  g__law_by_names : FnI P w K mg base (call tbl k) k "_law_by_names" 448 3 []
  g__law_by_places : FnI P w K mg base (call tbl k) k "_law_by_places" 449 3 []
  g__law_fields : FnI P w K mg base (call tbl k) k "_law_fields" 450 2 []
  g__law_mine : FnI P w K mg base (call tbl k) k "_law_mine" 144 1 []
  g_law : FnI P w K mg base (call tbl k) k "law" 451 1 []
  x_BadName : XcI P w K mg base "BadName" ["name"]
  x_BadWeight : XcI P w K mg base "BadWeight" ["weight"]
  x_Clash : XcI P w K mg base "Clash" ["kind", "name"]
  x_Far : XcI P w K mg base "Far" ["kind", "name"]
  x_Flat : XcI P w K mg base "Flat" ["a"]
  x_Full : XcI P w K mg base "Full" ["kind"]
  x_InUse : XcI P w K mg base "InUse" ["kind", "name"]
  x_NoBook : XcI P w K mg base "NoBook" ["name"]
  x_NoBottom : XcI P w K mg base "NoBottom" ["top"]
  x_NoSuch : XcI P w K mg base "NoSuch" ["kind", "name"]
  x_NoTelling : XcI P w K mg base "NoTelling" ["name"]
  x_NoText : XcI P w K mg base "NoText" ["row"]
  x_NoTie : XcI P w K mg base "NoTie" ["name"]
  x_NotJoined : XcI P w K mg base "NotJoined" ["start", "end"]
  x_NotSheer : XcI P w K mg base "NotSheer" ["part"]
  x_NotVouched : XcI P w K mg base "NotVouched" ["voucher", "name"]
  x_SameScale : XcI P w K mg base "SameScale" ["name"]
  x_Taken : XcI P w K mg base "Taken" ["kind", "name"]
  x_Vouched : XcI P w K mg base "Vouched" ["voucher", "name"]
  k_BadName : XcK P w K mg base "BadName" ["name"] ["name"]
  k_BadWeight : XcK P w K mg base "BadWeight" ["weight"] ["weight"]
  k_Clash : XcK P w K mg base "Clash" ["kind", "name"] ["kind", "name"]
  k_Far : XcK P w K mg base "Far" ["kind", "name"] ["kind", "name"]
  k_Flat : XcK P w K mg base "Flat" ["a"] ["a"]
  k_Full : XcK P w K mg base "Full" ["kind"] ["kind"]
  k_InUse : XcK P w K mg base "InUse" ["kind", "name"] ["kind", "name"]
  k_NoBook : XcK P w K mg base "NoBook" ["name"] ["name"]
  k_NoBottom : XcK P w K mg base "NoBottom" ["top"] ["top"]
  k_NoSuch : XcK P w K mg base "NoSuch" ["kind", "name"] ["kind", "name"]
  k_NoTelling : XcK P w K mg base "NoTelling" ["name"] ["name"]
  k_NoText : XcK P w K mg base "NoText" ["row"] ["row"]
  k_NoTie : XcK P w K mg base "NoTie" ["name"] ["name"]
  k_NotJoined : XcK P w K mg base "NotJoined" ["start", "end"] ["start", "end"]
  k_NotSheer : XcK P w K mg base "NotSheer" ["part"] ["part"]
  k_NotVouched : XcK P w K mg base "NotVouched" ["voucher", "name"] ["voucher", "name"]
  k_SameScale : XcK P w K mg base "SameScale" ["name"] ["name"]
  k_Taken : XcK P w K mg base "Taken" ["kind", "name"] ["kind", "name"]
  k_Vouched : XcK P w K mg base "Vouched" ["voucher", "name"] ["voucher", "name"]
section
variable {P : Program} {w : World} {K : PySem.W.Frag} {mg : Str → Option Value} {base : Heap} {k : Nat} {f : Addr} {cdv : Value} {A : Around} {outer : List PySem.Env} {s : Shared} {H : Hp} {E : XK}
theorem jb__law_start (T : Fcts K mg) (G : Fns P w K mg base k) (c : Cq (cxOf (L2N.CX P w) P w K mg base N__law_start "_law_start" (defScope za7) f cdv A outer s H E) (fun c d _ H => E c d H) k) :
    JSs (cxOf (L2N.CX P w) P w K mg base N__law_start "_law_start" (defScope za7) f cdv A outer s H E) (fun c d _ H => E c d H) (call tbl k) (defBody za7) F_law_start.body :=
  (zad (js_setC (i := 1) (own := [("_law_cell", 2)]) (is := [2]) (one := .one) c.calm c.nd (ji_seq (zab 0)) (blkOk_by (own := [("_law_cell", 2)]) (N := N__law_start) (sc := defScope za7) (by decide +kernel)) (fun sB HB CB clB fpB => (tg_one (c.blk sB HB _ _ fpB).nd)) (fun sB HB CB clB fpB => cd_some (za1 (c.blk sB HB _ _ fpB).hr.u66 (zab 2) (zaq zah zah))) (fun sB HB CB clB fpB => (zab 2)))
  (zad (zao (zaj (zaa (zab 1) (zaa zah (zaa (je_comp (own := [("_law_cell", 2)]) (is := [2]) (one := .one) c.calm c.nd (ji_seq (zab 0)) (blkOk_by (own := [("_law_cell", 2)]) (N := N__law_start) (sc := defScope za7) (by decide +kernel)) (fun sB HB CB clB fpB => (tg_one (c.blk sB HB _ _ fpB).nd)) (fun sB HB CB clB fpB => cd_none) (fun sB HB CB clB fpB => (zaq (zab 2) zah))) (zaa zah zae))))))
  zag))
theorem jb__law_draw (T : Fcts K mg) (G : Fns P w K mg base k) (c : Cq (cxOf (L2N.CX P w) P w K mg base N__law_draw "_law_draw" (defScope zbt) f cdv A outer s H E) (fun c d _ H => E c d H) k) :
    JSs (cxOf (L2N.CX P w) P w K mg base N__law_draw "_law_draw" (defScope zbt) f cdv A outer s H E) (fun c d _ H => E c d H) (call tbl k) (defBody zbt) F_law_draw.body :=
  (zad (zbu (jt_bool (jw_and (za1 c.hr.u66 (je_idx c.hr.u66 (zab 0) zah) zah) (jw_and1 (jt_val (je_idx c.hr.u66 (zab 0) zah))))) (zad (js_sub c.hr.u66 (je_mth .popAt PySem.F.plainAttrs_list PySem.F.slot_list_pop PySem.F.type_list_pop (fun _ => mt_popAt_ok) (je_idx c.hr.u66 (zab 0) zah) (zaa zah zae)) (zab 0) zah)
  zag) zag)
  (zad (zbu (za1 c.hr.u66 (je_idx c.hr.u66 (zab 0) zah) zah) (zad (za2 (i := 2) c.nd (zaq (je_idx c.hr.u66 (zab 0) zah) (zab 1)))
  (zad (js_sub c.hr.u66 (zaq (je_idx c.hr.u66 (zab 0) zah) (zab 1)) (zab 0) zah)
  (zad (zao (zab 2))
  zag))) zag)
  (zad (za2 (i := 2) c.nd zah)
  (zad (za2 (i := 3) c.nd zah)
  (zad (js_while0 c.po (za1 c.hr.u66 (zab 3) (zab 1)) (zad (za2 (i := 2) c.nd (zaq (zaq (zab 2) zah) (zbv G.g__law_mix c.calm c.hr c.tk (zaa (zab 0) zae))))
  (zad (za2 (i := 3) c.nd (zaq (zab 3) zah))
  zag)))
  (zad (zao (zaq (zab 2) (zab 1)))
  zag))))))
theorem jb__law_mix (T : Fcts K mg) (G : Fns P w K mg base k) (c : Cq (cxOf (L2N.CX P w) P w K mg base N__law_mix "_law_mix" (defScope s__law_mix) f cdv A outer s H E) (fun c d _ H => E c d H) k) :
    JSs (cxOf (L2N.CX P w) P w K mg base N__law_mix "_law_mix" (defScope s__law_mix) f cdv A outer s H E) (fun c d _ H => E c d H) (call tbl k) (defBody s__law_mix) F_law_mix.body :=
  (zad (js_augs c.hr.u66 (zab 0) zah zah)
  (zad (za2 (i := 1) c.nd (je_idx c.hr.u66 (zab 0) zah))
  (zad (za2 (i := 2) c.nd zah)
  (zad (zbu (jt_val (je_idx c.hr.u66 (zab 0) zah)) (zad (za2 (i := 2) c.nd (je_idx c.hr.u66 (je_idx c.hr.u66 (zab 0) zah) (zaq (zab 1) (zap .len (fun _ => bi_len) T.fr_len (by decide +kernel) (zaa (je_idx c.hr.u66 (zab 0) zah) zae)))))
  zag) zag)
  (zad (za2 (i := 3) c.nd (zaq (zaq (zaq (zaq (zaq (zab 2) (zaq (zaq zah (zab 1)) (zab 1))) (zaq zah (zab 1))) zah) zah) zah))
  (zad (zao (zaq (zaq (zaq (zab 3) zah) (zaq zah (zab 1))) zah))
  zag))))))
theorem jb__law_same (T : Fcts K mg) (G : Fns P w K mg base k) (c : Cq (cxOf (L2N.CX P w) P w K mg base N__law_same "_law_same" (defScope zbj) f cdv A outer s H E) (fun c d _ H => E c d H) k) :
    JSs (cxOf (L2N.CX P w) P w K mg base N__law_same "_law_same" (defScope zbj) f cdv A outer s H E) (fun c d _ H => E c d H) (call tbl k) (defBody zbj) F_law_same.body :=
  (zad (zbu (jt_val (zap .isinst (fun _ => zbr) T.fr_isinstance (by decide +kernel) (zaa (zab 1) (zaa (je_tup (zaa (je_ty .tuple T.fr_tuple (by decide +kernel)) (zaa (je_ty .list T.fr_list (by decide +kernel)) zae))) zae)))) (zad (zbu (za1 c.hr.u66 (zap .isinst (fun _ => zbr) T.fr_isinstance (by decide +kernel) (zaa (zab 0) (zaa (je_ty .tuple T.fr_tuple (by decide +kernel)) zae))) (zap .isinst (fun _ => zbr) T.fr_isinstance (by decide +kernel) (zaa (zab 1) (zaa (je_ty .tuple T.fr_tuple (by decide +kernel)) zae)))) (zad (zao je_bl)
  zag) zag)
  (zad (zbu (jt_bool (jw_or (za1 c.hr.u66 (zap .isinst (fun _ => zbr) T.fr_isinstance (by decide +kernel) (zaa (zab 0) (zaa (je_ty .list T.fr_list (by decide +kernel)) zae))) (zap .isinst (fun _ => zbr) T.fr_isinstance (by decide +kernel) (zaa (zab 1) (zaa (je_ty .list T.fr_list (by decide +kernel)) zae)))) (jw_or1 (za1 c.hr.u66 (zap .len (fun _ => bi_len) T.fr_len (by decide +kernel) (zaa (zab 0) zae)) (zap .len (fun _ => bi_len) T.fr_len (by decide +kernel) (zaa (zab 1) zae)))))) (zad (zao je_bl)
  zag) zag)
  (zad (zao (zap .all (fun _ => (bi_all c.calm)) T.fr_all (by decide +kernel) (zaa (je_comp (own := [("_law_one", 2), ("_law_other", 3)]) (is := [2, 3]) (one := .tup) c.calm c.nd (ji_zip T.fr_zip (zaa (zab 0) (zaa (zab 1) zae))) (blkOk_by (own := [("_law_one", 2), ("_law_other", 3)]) (N := N__law_same) (sc := defScope zbj) (by decide +kernel)) (fun sB HB CB clB fpB => (tg_tup (c.blk sB HB _ _ fpB).calm (tgs_cons (i := 2) (c.blk sB HB _ _ fpB).nd (tgs_cons (i := 3) (c.blk sB HB _ _ fpB).nd tgs_nil)))) (fun sB HB CB clB fpB => cd_none) (fun sB HB CB clB fpB => (zbv G.g__law_same (c.blk sB HB _ _ fpB).calm (c.blk sB HB _ _ fpB).hr (c.blk sB HB _ _ fpB).tk (zaa (zab 2) (zaa (zab 3) zae))))) zae)))
  zag))) zag)
  (zad (zbu (za1 c.hr.u66 (zab 1) je_non) (zad (zao (je_cmp c.hr.u66 (zab 0) je_non))
  zag) zag)
  (zad (zbu (jt_val (zap .isinst (fun _ => zbr) T.fr_isinstance (by decide +kernel) (zaa (zab 1) (zaa (je_ty .str T.fr_str (by decide +kernel)) zae)))) (zad (zao (je_and (zap .isinst (fun _ => zbr) T.fr_isinstance (by decide +kernel) (zaa (zab 0) (zaa (je_ty .str T.fr_str (by decide +kernel)) zae))) (je_one (je_cmp c.hr.u66 (zab 0) (zab 1)))))
  zag) zag)
  (zad (zao (je_and (zap .isinst (fun _ => zbr) T.fr_isinstance (by decide +kernel) (zaa (zab 0) (zaa (je_ty .int T.fr_int (by decide +kernel)) zae))) (je_and (je_cmp c.hr.u66 (zap .isinst (fun _ => zbr) T.fr_isinstance (by decide +kernel) (zaa (zab 0) (zaa (je_ty .bool T.fr_bool (by decide +kernel)) zae))) (zap .isinst (fun _ => zbr) T.fr_isinstance (by decide +kernel) (zaa (zab 1) (zaa (je_ty .bool T.fr_bool (by decide +kernel)) zae)))) (je_one (je_cmp c.hr.u66 (zab 0) (zab 1))))))
  zag))))
theorem jb__law_alone (T : Fcts K mg) (G : Fns P w K mg base k) (c : Cq (cxOf (L2N.CX P w) P w K mg base N__law_alone "_law_alone" (defScope zbl) f cdv A outer s H E) (fun c d _ H => E c d H) k) :
    JSs (cxOf (L2N.CX P w) P w K mg base N__law_alone "_law_alone" (defScope zbl) f cdv A outer s H E) (fun c d _ H => E c d H) (call tbl k) (defBody zbl) F_law_alone.body :=
  (zad (za2 (i := 1) c.nd (zaj (zaa (zap .isx (fun _ => zak T.xk) T.fr_isinstance (by decide +kernel) (zaa (zab 0) (zaa (zal T.cl_NoBottom) zae))) (zaa (zap .isx (fun _ => zak T.xk) T.fr_isinstance (by decide +kernel) (zaa (zab 0) (zaa (zal T.cl_NotJoined) zae))) (zaa (zap .isx (fun _ => zak T.xk) T.fr_isinstance (by decide +kernel) (zaa (zab 0) (zaa (zal T.cl_NoTelling) zae))) (zaa (zap .isx (fun _ => zak T.xk) T.fr_isinstance (by decide +kernel) (zaa (zab 0) (zaa (zal T.cl_NoTie) zae))) zae))))))
  (zad (za2 (i := 1) c.nd (zaq (zab 1) (zaj (zaa (zap .isx (fun _ => zak T.xk) T.fr_isinstance (by decide +kernel) (zaa (zab 0) (zaa (zal T.cl_BadName) zae))) (zaa (zap .isx (fun _ => zak T.xk) T.fr_isinstance (by decide +kernel) (zaa (zab 0) (zaa (zal T.cl_Taken) zae))) (zaa (zap .isx (fun _ => zak T.xk) T.fr_isinstance (by decide +kernel) (zaa (zab 0) (zaa (zal T.cl_NoSuch) zae))) (zaa (zap .isx (fun _ => zak T.xk) T.fr_isinstance (by decide +kernel) (zaa (zab 0) (zaa (zal T.cl_InUse) zae))) zae)))))))
  (zad (za2 (i := 1) c.nd (zaq (zab 1) (zaj (zaa (zap .isx (fun _ => zak T.xk) T.fr_isinstance (by decide +kernel) (zaa (zab 0) (zaa (zal T.cl_Full) zae))) (zaa (zap .isx (fun _ => zak T.xk) T.fr_isinstance (by decide +kernel) (zaa (zab 0) (zaa (zal T.cl_Far) zae))) (zaa (zap .isx (fun _ => zak T.xk) T.fr_isinstance (by decide +kernel) (zaa (zab 0) (zaa (zal T.cl_Flat) zae))) (zaa (zap .isx (fun _ => zak T.xk) T.fr_isinstance (by decide +kernel) (zaa (zab 0) (zaa (zal T.cl_BadWeight) zae))) zae)))))))
  (zad (za2 (i := 1) c.nd (zaq (zab 1) (zaj (zaa (zap .isx (fun _ => zak T.xk) T.fr_isinstance (by decide +kernel) (zaa (zab 0) (zaa (zal T.cl_SameScale) zae))) (zaa (zap .isx (fun _ => zak T.xk) T.fr_isinstance (by decide +kernel) (zaa (zab 0) (zaa (zal T.cl_Vouched) zae))) (zaa (zap .isx (fun _ => zak T.xk) T.fr_isinstance (by decide +kernel) (zaa (zab 0) (zaa (zal T.cl_NotVouched) zae))) zae))))))
  (zad (za2 (i := 1) c.nd (zaq (zab 1) (zaj (zaa (zap .isx (fun _ => zak T.xk) T.fr_isinstance (by decide +kernel) (zaa (zab 0) (zaa (zal T.cl_NotSheer) zae))) (zaa (zap .isx (fun _ => zak T.xk) T.fr_isinstance (by decide +kernel) (zaa (zab 0) (zaa (zal T.cl_Clash) zae))) (zaa (zap .isx (fun _ => zak T.xk) T.fr_isinstance (by decide +kernel) (zaa (zab 0) (zaa (zal T.cl_NoText) zae))) (zaa (zap .isx (fun _ => zak T.xk) T.fr_isinstance (by decide +kernel) (zaa (zab 0) (zaa (zal T.cl_NoBook) zae))) zae)))))))
  (zad (za2 (i := 1) c.nd (zaq (zab 1) (zaj (zaa (zap .isx (fun _ => zak T.xk) T.fr_isinstance (by decide +kernel) (zaa (zab 0) (zaa (zal T.cl_NoLevel) zae))) (zaa (zap .isx (fun _ => zak T.xk) T.fr_isinstance (by decide +kernel) (zaa (zab 0) (zaa (zal T.cl_NothingDone) zae))) (zaa (zap .isx (fun _ => zak T.xk) T.fr_isinstance (by decide +kernel) (zaa (zab 0) (zaa (zal T.cl_NoLine) zae))) zae))))))
  (zad (zao (je_and (je_cmp c.hr.u66 (je_mth .count PySem.F.plainAttrs_list PySem.F.slot_list_count PySem.F.type_list_count (fun _ => (mt_count_ok c.hr.u66)) (zab 1) (zaa je_bl zae)) zah) (je_and (zap .isx (fun _ => zak T.xk) T.fr_isinstance (by decide +kernel) (zaa (zab 0) (zaa (zal T.cl_BookError) zae))) (je_one (zap .isx (fun _ => zak T.xk) T.fr_isinstance (by decide +kernel) (zaa (zab 0) (zaa (je_ve T.fr_ValueError) zae)))))))
  zag)))))))
theorem jb__law_some_thing (T : Fcts K mg) (G : Fns P w K mg base k) (c : Cq (cxOf (L2N.CX P w) P w K mg base N__law_some_thing "_law_some_thing" (defScope zat) f cdv A outer s H E) (fun c d _ H => E c d H) k) :
    JSs (cxOf (L2N.CX P w) P w K mg base N__law_some_thing "_law_some_thing" (defScope zat) f cdv A outer s H E) (fun c d _ H => E c d H) (call tbl k) (defBody zat) F_law_some_thing.body :=
  (zad (zao (je_idx c.hr.u66 (zaj (zaa je_str (zaa je_str (zaa je_str (zaa je_str (zaa zah (zaa je_non (zaa je_bl (zaa (je_tup (zaa je_str zae)) (zaa (zaj (zaa zah zae)) (zaa (je_tup (zaa zah (zaa zah zae))) (zaa (zaq zah zah) (zaa (je_neg zah) zae))))))))))))) (zbv G.g__law_draw c.calm c.hr c.tk (zaa (zab 0) (zaa zah zae)))))
  zag)
theorem jb__law_single (T : Fcts K mg) (G : Fns P w K mg base k) (c : Cq (cxOf (L2N.CX P w) P w K mg base N__law_single "_law_single" (defScope zbd) f cdv A outer s H E) (fun c d _ H => E c d H) k) :
    JSs (cxOf (L2N.CX P w) P w K mg base N__law_single "_law_single" (defScope zbd) f cdv A outer s H E) (fun c d _ H => E c d H) (call tbl k) (defBody zbd) F_law_single.body :=
  (zad (za2 (i := 2) c.nd (zaj (zaa (zbf G.k_NoBottom (c.hr.mono (by omega)) (zau (zab 1) zb2)) (zaa (zbf G.k_NoTelling (c.hr.mono (by omega)) (zau (zab 1) zb2)) (zaa (zbf G.k_NoTie (c.hr.mono (by omega)) (zau (zab 1) zb2)) (zaa (zbf G.k_BadName (c.hr.mono (by omega)) (zau (zab 1) zb2)) (zaa (zbf G.k_Full (c.hr.mono (by omega)) (zau (zab 1) zb2)) zae)))))))
  (zad (za2 (i := 2) c.nd (zaq (zab 2) (zaj (zaa (zbf G.k_Flat (c.hr.mono (by omega)) (zau (zab 1) zb2)) (zaa (zbf G.k_BadWeight (c.hr.mono (by omega)) (zau (zab 1) zb2)) (zaa (zbf G.k_SameScale (c.hr.mono (by omega)) (zau (zab 1) zb2)) (zaa (zbf G.k_NotSheer (c.hr.mono (by omega)) (zau (zab 1) zb2)) zae)))))))
  (zad (za2 (i := 2) c.nd (zaq (zab 2) (zaj (zaa (zbf G.k_NoText (c.hr.mono (by omega)) (zau (zab 1) zb2)) (zaa (zbf G.k_NoBook (c.hr.mono (by omega)) (zau (zab 1) zb2)) zae)))))
  (zad (zao (je_tup (zaa (je_idx c.hr.u66 (zab 2) (zaq (zab 0) zah)) (zaa (zaj (zaa (zab 1) zae)) zae))))
  zag))))
theorem jb__law_by_names (T : Fcts K mg) (G : Fns P w K mg base k) (c : Cq (cxOf (L2N.CX P w) P w K mg base N__law_by_names "_law_by_names" (defScope za0) f cdv A outer s H E) (fun c d _ H => E c d H) k) :
    JSs (cxOf (L2N.CX P w) P w K mg base N__law_by_names "_law_by_names" (defScope za0) f cdv A outer s H E) (fun c d _ H => E c d H) (call tbl k) (defBody za0) F_law_by_names.body :=
  (zad (zbu (za1 c.hr.u66 (zab 0) zah) (zad (zao (je_tup (zaa (zbf G.k_NotJoined (c.hr.mono (by omega)) (zau (zab 1) (zau (zab 2) zb2))) (zaa (zaj (zaa (zab 1) (zaa (zab 2) zae))) zae))))
  zag) zag)
  (zad (zbu (za1 c.hr.u66 (zab 0) zah) (zad (zao (je_tup (zaa (zbf G.k_Taken (c.hr.mono (by omega)) (zau (zab 1) (zau (zab 2) zb2))) (zaa (zaj (zaa (zab 1) (zaa (zab 2) zae))) zae))))
  zag) zag)
  (zad (zbu (za1 c.hr.u66 (zab 0) zah) (zad (zao (je_tup (zaa (zbf G.k_NoSuch (c.hr.mono (by omega)) (zau (zab 1) (zau (zab 2) zb2))) (zaa (zaj (zaa (zab 1) (zaa (zab 2) zae))) zae))))
  zag) zag)
  (zad (zbu (za1 c.hr.u66 (zab 0) zah) (zad (zao (je_tup (zaa (zbf G.k_InUse (c.hr.mono (by omega)) (zau (zab 1) (zau (zab 2) zb2))) (zaa (zaj (zaa (zab 1) (zaa (zab 2) zae))) zae))))
  zag) zag)
  (zad (zbu (za1 c.hr.u66 (zab 0) zah) (zad (zao (je_tup (zaa (zbf G.k_Far (c.hr.mono (by omega)) (zau (zab 1) (zau (zab 2) zb2))) (zaa (zaj (zaa (zab 1) (zaa (zab 2) zae))) zae))))
  zag) zag)
  (zad (zbu (za1 c.hr.u66 (zab 0) zah) (zad (zao (je_tup (zaa (zbf G.k_Clash (c.hr.mono (by omega)) (zau (zab 1) (zau (zab 2) zb2))) (zaa (zaj (zaa (zab 1) (zaa (zab 2) zae))) zae))))
  zag) zag)
  (zad (zbu (za1 c.hr.u66 (zab 0) zah) (zad (zao (je_tup (zaa (zbf G.k_Vouched (c.hr.mono (by omega)) (zau (zab 1) (zau (zab 2) zb2))) (zaa (zaj (zaa (zab 1) (zaa (zab 2) zae))) zae))))
  zag) zag)
  (zad (zbu (za1 c.hr.u66 (zab 0) zah) (zad (zao (je_tup (zaa (zbf G.k_NotVouched (c.hr.mono (by omega)) (zau (zab 1) (zau (zab 2) zb2))) (zaa (zaj (zaa (zab 1) (zaa (zab 2) zae))) zae))))
  zag) zag)
  (zad (zao (zbv G.g__law_single c.calm c.hr c.tk (zaa (zab 0) (zaa (zab 1) zae))))
  zag)))))))))
theorem jb__law_by_places (T : Fcts K mg) (G : Fns P w K mg base k) (c : Cq (cxOf (L2N.CX P w) P w K mg base N__law_by_places "_law_by_places" (defScope zaw) f cdv A outer s H E) (fun c d _ H => E c d H) k) :
    JSs (cxOf (L2N.CX P w) P w K mg base N__law_by_places "_law_by_places" (defScope zaw) f cdv A outer s H E) (fun c d _ H => E c d H) (call tbl k) (defBody zaw) F_law_by_places.body :=
  (zad (za2 (i := 3) c.nd (zaj (zaa (zb3 G.x_NotJoined (c.hr.mono (by omega)) (zaa (zab 1) (zaa (zab 2) zae))) (zaa (zb3 G.x_Taken (c.hr.mono (by omega)) (zaa (zab 1) (zaa (zab 2) zae))) (zaa (zb3 G.x_NoSuch (c.hr.mono (by omega)) (zaa (zab 1) (zaa (zab 2) zae))) (zaa (zb3 G.x_InUse (c.hr.mono (by omega)) (zaa (zab 1) (zaa (zab 2) zae))) (zaa (zb3 G.x_Far (c.hr.mono (by omega)) (zaa (zab 1) (zaa (zab 2) zae))) zae)))))))
  (zad (za2 (i := 3) c.nd (zaq (zab 3) (zaj (zaa (zb3 G.x_Clash (c.hr.mono (by omega)) (zaa (zab 1) (zaa (zab 2) zae))) (zaa (zb3 G.x_Vouched (c.hr.mono (by omega)) (zaa (zab 1) (zaa (zab 2) zae))) (zaa (zb3 G.x_NotVouched (c.hr.mono (by omega)) (zaa (zab 1) (zaa (zab 2) zae))) zae))))))
  (zad (za2 (i := 4) c.nd (zaj (zaa (zb3 G.x_NoBottom (c.hr.mono (by omega)) (zaa (zab 1) zae)) (zaa (zb3 G.x_NoTelling (c.hr.mono (by omega)) (zaa (zab 1) zae)) (zaa (zb3 G.x_NoTie (c.hr.mono (by omega)) (zaa (zab 1) zae)) (zaa (zb3 G.x_BadName (c.hr.mono (by omega)) (zaa (zab 1) zae)) (zaa (zb3 G.x_Full (c.hr.mono (by omega)) (zaa (zab 1) zae)) (zaa (zb3 G.x_Flat (c.hr.mono (by omega)) (zaa (zab 1) zae)) (zaa (zb3 G.x_BadWeight (c.hr.mono (by omega)) (zaa (zab 1) zae)) zae)))))))))
  (zad (za2 (i := 4) c.nd (zaq (zab 4) (zaj (zaa (zb3 G.x_SameScale (c.hr.mono (by omega)) (zaa (zab 1) zae)) (zaa (zb3 G.x_NotSheer (c.hr.mono (by omega)) (zaa (zab 1) zae)) (zaa (zb3 G.x_NoText (c.hr.mono (by omega)) (zaa (zab 1) zae)) (zaa (zb3 G.x_NoBook (c.hr.mono (by omega)) (zaa (zab 1) zae)) zae)))))))
  (zad (za2 (i := 5) c.nd (zaj (zaa (je_xmk1 T.c1_NoLevel je_str) (zaa (je_xmk1 T.c1_NothingDone je_str) (zaa (je_xmk1 T.c1_NoLine je_str) zae)))))
  (zad (zbu (za1 c.hr.u66 (zab 0) zah) (zad (zao (je_tup (zaa (je_idx c.hr.u66 (zab 3) (zab 0)) (zaa (zaj (zaa (zab 1) (zaa (zab 2) zae))) zae))))
  zag) zag)
  (zad (zbu (za1 c.hr.u66 (zab 0) zah) (zad (zao (je_tup (zaa (je_idx c.hr.u66 (zab 4) (zaq (zab 0) zah)) (zaa (zaj (zaa (zab 1) zae)) zae))))
  zag) zag)
  (zad (zao (je_tup (zaa (je_idx c.hr.u66 (zab 5) (zaq (zab 0) zah)) (zaa (zaj zae) zae))))
  zag))))))))
theorem jb__law_fields (T : Fcts K mg) (G : Fns P w K mg base k) (c : Cq (cxOf (L2N.CX P w) P w K mg base N__law_fields "_law_fields" (defScope zbe) f cdv A outer s H E) (fun c d _ H => E c d H) k) :
    JSs (cxOf (L2N.CX P w) P w K mg base N__law_fields "_law_fields" (defScope zbe) f cdv A outer s H E) (fun c d _ H => E c d H) (call tbl k) (defBody zbe) F_law_fields.body :=
  (zad (zbu (za1 c.hr.u66 (zab 1) zah) (zad (zao (zaj (zaa (je_xatA T.xa (zab 0)) (zaa (je_xatA T.xa (zab 0)) zae))))
  zag) zag)
  (zad (zbu (za1 c.hr.u66 (zab 1) zah) (zad (zao (zaj (zaa (je_xatA T.xa (zab 0)) (zaa (je_xatA T.xa (zab 0)) zae))))
  zag) zag)
  (zad (zbu (za1 c.hr.u66 (zab 1) zah) (zad (zao (zaj (zaa (je_xatA T.xa (zab 0)) (zaa (je_xatA T.xa (zab 0)) zae))))
  zag) zag)
  (zad (zbu (za1 c.hr.u66 (zab 1) zah) (zad (zao (zaj (zaa (je_xatA T.xa (zab 0)) zae)))
  zag) zag)
  (zad (zbu (za1 c.hr.u66 (zab 1) (je_tup (zaa zah (zaa zah (zaa zah (zaa zah (zaa zah zae))))))) (zad (zao (zaj (zaa (je_xatA T.xa (zab 0)) zae)))
  zag) zag)
  (zad (zbu (za1 c.hr.u66 (zab 1) zah) (zad (zao (zaj (zaa (je_xatA T.xa (zab 0)) zae)))
  zag) zag)
  (zad (zbu (za1 c.hr.u66 (zab 1) zah) (zad (zao (zaj (zaa (je_xatA T.xa (zab 0)) zae)))
  zag) zag)
  (zad (zbu (za1 c.hr.u66 (zab 1) zah) (zad (zao (zaj (zaa (je_xatA T.xa (zab 0)) zae)))
  zag) zag)
  (zad (zbu (za1 c.hr.u66 (zab 1) zah) (zad (zao (zaj (zaa (je_xatA T.xa (zab 0)) zae)))
  zag) zag)
  (zad (zbu (za1 c.hr.u66 (zab 1) zah) (zad (zao (zaj (zaa (je_xatA T.xa (zab 0)) zae)))
  zag) zag)
  (zad (zao (zaj zae))
  zag)))))))))))
theorem jb__law_mine (T : Fcts K mg) (G : Fns P w K mg base k) (c : Cq (cxOf (L2N.CX P w) P w K mg base N__law_mine "_law_mine" (defScope zbk) f cdv A outer s H E) (fun c d _ H => E c d H) k) :
    JSs (cxOf (L2N.CX P w) P w K mg base N__law_mine "_law_mine" (defScope zbk) f cdv A outer s H E) (fun c d _ H => E c d H) (call tbl k) (defBody zbk) F_law_mine.body :=
  (zad (za2 (i := 1) c.nd (zaj (zaa (zap .isx (fun _ => zak T.xk) T.fr_isinstance (by decide +kernel) (zaa (zab 0) (zaa (zal T.cl_NotJoined) zae))) (zaa (zap .isx (fun _ => zak T.xk) T.fr_isinstance (by decide +kernel) (zaa (zab 0) (zaa (zal T.cl_Taken) zae))) (zaa (zap .isx (fun _ => zak T.xk) T.fr_isinstance (by decide +kernel) (zaa (zab 0) (zaa (zal T.cl_NoSuch) zae))) (zaa (zap .isx (fun _ => zak T.xk) T.fr_isinstance (by decide +kernel) (zaa (zab 0) (zaa (zal T.cl_InUse) zae))) zae))))))
  (zad (za2 (i := 1) c.nd (zaq (zab 1) (zaj (zaa (zap .isx (fun _ => zak T.xk) T.fr_isinstance (by decide +kernel) (zaa (zab 0) (zaa (zal T.cl_Far) zae))) (zaa (zap .isx (fun _ => zak T.xk) T.fr_isinstance (by decide +kernel) (zaa (zab 0) (zaa (zal T.cl_Clash) zae))) (zaa (zap .isx (fun _ => zak T.xk) T.fr_isinstance (by decide +kernel) (zaa (zab 0) (zaa (zal T.cl_Vouched) zae))) (zaa (zap .isx (fun _ => zak T.xk) T.fr_isinstance (by decide +kernel) (zaa (zab 0) (zaa (zal T.cl_NotVouched) zae))) zae)))))))
  (zad (za2 (i := 1) c.nd (zaq (zab 1) (zaj (zaa (zap .isx (fun _ => zak T.xk) T.fr_isinstance (by decide +kernel) (zaa (zab 0) (zaa (zal T.cl_NoBottom) zae))) (zaa (zap .isx (fun _ => zak T.xk) T.fr_isinstance (by decide +kernel) (zaa (zab 0) (zaa (zal T.cl_NoTelling) zae))) (zaa (zap .isx (fun _ => zak T.xk) T.fr_isinstance (by decide +kernel) (zaa (zab 0) (zaa (zal T.cl_NoTie) zae))) (zaa (zap .isx (fun _ => zak T.xk) T.fr_isinstance (by decide +kernel) (zaa (zab 0) (zaa (zal T.cl_BadName) zae))) zae)))))))
  (zad (za2 (i := 1) c.nd (zaq (zab 1) (zaj (zaa (zap .isx (fun _ => zak T.xk) T.fr_isinstance (by decide +kernel) (zaa (zab 0) (zaa (zal T.cl_Full) zae))) (zaa (zap .isx (fun _ => zak T.xk) T.fr_isinstance (by decide +kernel) (zaa (zab 0) (zaa (zal T.cl_Flat) zae))) (zaa (zap .isx (fun _ => zak T.xk) T.fr_isinstance (by decide +kernel) (zaa (zab 0) (zaa (zal T.cl_BadWeight) zae))) (zaa (zap .isx (fun _ => zak T.xk) T.fr_isinstance (by decide +kernel) (zaa (zab 0) (zaa (zal T.cl_SameScale) zae))) zae)))))))
  (zad (za2 (i := 1) c.nd (zaq (zab 1) (zaj (zaa (zap .isx (fun _ => zak T.xk) T.fr_isinstance (by decide +kernel) (zaa (zab 0) (zaa (zal T.cl_NotSheer) zae))) (zaa (zap .isx (fun _ => zak T.xk) T.fr_isinstance (by decide +kernel) (zaa (zab 0) (zaa (zal T.cl_NoText) zae))) (zaa (zap .isx (fun _ => zak T.xk) T.fr_isinstance (by decide +kernel) (zaa (zab 0) (zaa (zal T.cl_NoBook) zae))) (zaa (zap .isx (fun _ => zak T.xk) T.fr_isinstance (by decide +kernel) (zaa (zab 0) (zaa (zal T.cl_NoLevel) zae))) zae)))))))
  (zad (za2 (i := 1) c.nd (zaq (zab 1) (zaj (zaa (zap .isx (fun _ => zak T.xk) T.fr_isinstance (by decide +kernel) (zaa (zab 0) (zaa (zal T.cl_NothingDone) zae))) (zaa (zap .isx (fun _ => zak T.xk) T.fr_isinstance (by decide +kernel) (zaa (zab 0) (zaa (zal T.cl_NoLine) zae))) zae)))))
  (zad (zao (je_comp (own := [("_law_k", 2)]) (is := [2]) (one := .one) c.calm c.nd (ji_range T.fr_range (zaa zah zae)) (blkOk_by (own := [("_law_k", 2)]) (N := N__law_mine) (sc := defScope zbk) (by decide +kernel)) (fun sB HB CB clB fpB => (tg_one (c.blk sB HB _ _ fpB).nd)) (fun sB HB CB clB fpB => cd_some (jt_val (je_idx (c.blk sB HB _ _ fpB).hr.u66 (zab 1) (zab 2)))) (fun sB HB CB clB fpB => (zab 2))))
  zag)))))))
theorem jb_law (T : Fcts K mg) (G : Fns P w K mg base k) (c : Cq (cxOf (L2N.CX P w) P w K mg base N_law "law" (defScope s_law) f cdv A outer s H E) (fun c d _ H => E c d H) k) :
    JSs (cxOf (L2N.CX P w) P w K mg base N_law "law" (defScope s_law) f cdv A outer s H E) (fun c d _ H => E c d H) (call tbl k) (defBody s_law) F_law_50.body :=
  (zad (za2 (i := 1) c.nd (zbv G.g__law_start c.calm c.hr c.tk (zaa (zab 0) zae)))
  (zad (js_for0 (is := [2]) (one := .one) c.po c.calm (ji_range T.fr_range (zaa zah zae)) (tg_one c.nd) (zad (za2 (i := 3) c.nd (zbv G.g__law_draw c.calm c.hr c.tk (zaa (zab 1) (zaa zah zae))))
  (zad (js_par (i := 4) (j := 5) c.calm c.nd (zaa (zbv G.g__law_some_thing c.calm c.hr c.tk (zaa (zab 1) zae)) (zaa (zbv G.g__law_some_thing c.calm c.hr c.tk (zaa (zab 1) zae)) zae)))
  (zad (js_tup (is := [6, 7]) (zbv G.g__law_by_places c.calm c.hr c.tk (zaa (zab 3) (zaa (zab 4) (zaa (zab 5) zae)))) (tg_tup' c.calm (tgs_cons (i := 6) c.nd (tgs_cons (i := 7) c.nd tgs_nil))))
  (zad (zbu (jt_bool (jw_and (za1 c.hr.u66 (zab 3) zah) (jw_and1 (za1 c.hr.u66 (zbv G.g__law_draw c.calm c.hr c.tk (zaa (zab 1) (zaa zah zae))) zah)))) (zad (js_tup (is := [6, 7]) (zbv G.g__law_by_names c.calm c.hr c.tk (zaa (zab 3) (zaa (zab 4) (zaa (zab 5) zae)))) (tg_tup' c.calm (tgs_cons (i := 6) c.nd (tgs_cons (i := 7) c.nd tgs_nil))))
  zag) zag)
  (zad (zbu (jt_bool (jw_or (jt_not (jt_val (zbv G.g__law_alone c.calm c.hr c.tk (zaa (zab 6) zae)))) (jw_or1 (za1 c.hr.u66 (zbv G.g__law_mine c.calm c.hr c.tk (zaa (zab 6) zae)) (zaj (zaa (zab 3) zae)))))) (zad (zao je_bl)
  zag) zag)
  (zad (zbu (jt_not (jt_val (zbv G.g__law_same c.calm c.hr c.tk (zaa (zbv G.g__law_fields c.calm c.hr c.tk (zaa (zab 6) (zaa (zab 3) zae))) (zaa (zab 7) zae))))) (zad (zao je_bl)
  zag) zag)
  zag)))))))
  (zad (zao je_bl)
  zag)))
end
end Sb
set_option maxHeartbeats 0
namespace Sb
theorem bA {a b : Bool} (h : (a && b) = true) : a = true ∧ b = true := Bool.and_eq_true_iff.mp h
open PySem PySem.Spec L2
abbrev LV : Nat := 12
theorem hex_tab {K : PySem.W.Frag} (e : hex K = true) : tabB K [] = true := (bA (bA (bA (bA (bA (bA (bA (bA (bA (bA (bA (bA (bA (bA (bA (bA (bA (bA (bA (bA (bA (bA e).1).1).1).1).1).1).1).1).1).1).1).1).1).1).1).1).1).1).1).1).1).1
theorem fcts {K : PySem.W.Frag} {h : Heap} {mg : Str → Option Value} (X : K.In h) (G : h.Ns mainGlobals mg) (c : He.SaysD hfa hfn K) (e : hex K = true) : Fcts K mg :=
  ⟨He.free_ok X G (c.fact 12 (f := .free "ValueError") rfl), He.free_ok X G (c.fact 13 (f := .free "all") rfl), He.free_ok X G (c.fact 14 (f := .free "bool") rfl), He.free_ok X G (c.fact 15 (f := .free "int") rfl), He.free_ok X G (c.fact 16 (f := .free "isinstance") rfl), He.free_ok X G (c.fact 17 (f := .free "len") rfl), He.free_ok X G (c.fact 18 (f := .free "list") rfl), He.free_ok X G (c.fact 19 (f := .free "range") rfl), He.free_ok X G (c.fact 20 (f := .free "str") rfl), He.free_ok X G (c.fact 21 (f := .free "tuple") rfl), He.free_ok X G (c.fact 22 (f := .free "zip") rfl), He.glo_ok X G (c.fact 23 (f := .glo "BadName") rfl), He.glo_ok X G (c.fact 24 (f := .glo "BadWeight") rfl), He.glo_ok X G (c.fact 25 (f := .glo "BookError") rfl), He.glo_ok X G (c.fact 26 (f := .glo "Clash") rfl), He.glo_ok X G (c.fact 27 (f := .glo "Far") rfl), He.glo_ok X G (c.fact 28 (f := .glo "Flat") rfl), He.glo_ok X G (c.fact 29 (f := .glo "Full") rfl), He.glo_ok X G (c.fact 30 (f := .glo "InUse") rfl), He.glo_ok X G (c.fact 31 (f := .glo "NoBook") rfl), He.glo_ok X G (c.fact 32 (f := .glo "NoBottom") rfl), He.glo_ok X G (c.fact 33 (f := .glo "NoLevel") rfl), He.glo_ok X G (c.fact 34 (f := .glo "NoLine") rfl), He.glo_ok X G (c.fact 35 (f := .glo "NoSuch") rfl), He.glo_ok X G (c.fact 36 (f := .glo "NoTelling") rfl), He.glo_ok X G (c.fact 37 (f := .glo "NoText") rfl), He.glo_ok X G (c.fact 38 (f := .glo "NoTie") rfl), He.glo_ok X G (c.fact 39 (f := .glo "NotJoined") rfl), He.glo_ok X G (c.fact 40 (f := .glo "NotSheer") rfl), He.glo_ok X G (c.fact 41 (f := .glo "NotVouched") rfl), He.glo_ok X G (c.fact 42 (f := .glo "NothingDone") rfl), He.glo_ok X G (c.fact 43 (f := .glo "SameScale") rfl), He.glo_ok X G (c.fact 44 (f := .glo "Taken") rfl), He.glo_ok X G (c.fact 45 (f := .glo "Vouched") rfl), xkB_ok (bA (bA e).1).2, xc1_ok X G (c.fact 33 (f := .glo "NoLevel") rfl) (c.fact 46 (f := .exc "NoLevel") rfl), xc1_ok X G (c.fact 34 (f := .glo "NoLine") rfl) (c.fact 47 (f := .exc "NoLine") rfl), xc1_ok X G (c.fact 42 (f := .glo "NothingDone") rfl) (c.fact 48 (f := .exc "NothingDone") rfl), xaB_ok (bA e).2⟩
theorem all_ok {P : Program} {w : World} {K : PySem.W.Frag} {h base : Heap} {mg : Str → Option Value} (X : K.In h) (Gh : h.Ns mainGlobals mg) (c : He.SaysD hfa hfn K) (e : hex K = true) (D : tbsU hts K = keyU hts w) (TB : ∀ p ∈ tabCs K, LamX.TabB base mg p.1 p.2) : ∀ k, Fns P w K mg base k := by
  have T := fcts X Gh c e
  obtain ⟨fd__law_start, FD__law_start⟩ := c.def_ 0 (d := d__law_start) rfl
  obtain ⟨fd__law_draw, FD__law_draw⟩ := c.def_ 1 (d := d__law_draw) rfl
  obtain ⟨fd__law_mix, FD__law_mix⟩ := c.def_ 2 (d := d__law_mix) rfl
  obtain ⟨fd__law_same, FD__law_same⟩ := c.def_ 3 (d := d__law_same) rfl
  obtain ⟨fd__law_alone, FD__law_alone⟩ := c.def_ 4 (d := d__law_alone) rfl
  obtain ⟨fd__law_some_thing, FD__law_some_thing⟩ := c.def_ 5 (d := d__law_some_thing) rfl
  obtain ⟨fd__law_single, FD__law_single⟩ := c.def_ 6 (d := d__law_single) rfl
  obtain ⟨fd__law_by_names, FD__law_by_names⟩ := c.def_ 7 (d := d__law_by_names) rfl
  obtain ⟨fd__law_by_places, FD__law_by_places⟩ := c.def_ 8 (d := d__law_by_places) rfl
  obtain ⟨fd__law_fields, FD__law_fields⟩ := c.def_ 9 (d := d__law_fields) rfl
  obtain ⟨fd__law_mine, FD__law_mine⟩ := c.def_ 10 (d := d__law_mine) rfl
  obtain ⟨fd_law, FD_law⟩ := c.def_ 11 (d := d_law) rfl
  obtain ⟨fx_BadName, FX_BadName⟩ := c.def_ 12 (d := d_BadName_init) rfl
  obtain ⟨fx_BadWeight, FX_BadWeight⟩ := c.def_ 13 (d := d_BadWeight_init) rfl
  obtain ⟨fx_Clash, FX_Clash⟩ := c.def_ 14 (d := d_Clash_init) rfl
  obtain ⟨fx_Far, FX_Far⟩ := c.def_ 15 (d := d_Far_init) rfl
  obtain ⟨fx_Flat, FX_Flat⟩ := c.def_ 16 (d := d_Flat_init) rfl
  obtain ⟨fx_Full, FX_Full⟩ := c.def_ 17 (d := d_Full_init) rfl
  obtain ⟨fx_InUse, FX_InUse⟩ := c.def_ 18 (d := d_InUse_init) rfl
  obtain ⟨fx_NoBook, FX_NoBook⟩ := c.def_ 19 (d := d_NoBook_init) rfl
  obtain ⟨fx_NoBottom, FX_NoBottom⟩ := c.def_ 20 (d := d_NoBottom_init) rfl
  obtain ⟨fx_NoSuch, FX_NoSuch⟩ := c.def_ 21 (d := d_NoSuch_init) rfl
  obtain ⟨fx_NoTelling, FX_NoTelling⟩ := c.def_ 22 (d := d_NoTelling_init) rfl
  obtain ⟨fx_NoText, FX_NoText⟩ := c.def_ 23 (d := d_NoText_init) rfl
  obtain ⟨fx_NoTie, FX_NoTie⟩ := c.def_ 24 (d := d_NoTie_init) rfl
  obtain ⟨fx_NotJoined, FX_NotJoined⟩ := c.def_ 25 (d := d_NotJoined_init) rfl
  obtain ⟨fx_NotSheer, FX_NotSheer⟩ := c.def_ 26 (d := d_NotSheer_init) rfl
  obtain ⟨fx_NotVouched, FX_NotVouched⟩ := c.def_ 27 (d := d_NotVouched_init) rfl
  obtain ⟨fx_SameScale, FX_SameScale⟩ := c.def_ 28 (d := d_SameScale_init) rfl
  obtain ⟨fx_Taken, FX_Taken⟩ := c.def_ 29 (d := d_Taken_init) rfl
  obtain ⟨fx_Vouched, FX_Vouched⟩ := c.def_ 30 (d := d_Vouched_init) rfl
  have z_BadName := zb0 X Gh (bA (bA (bA (bA (bA (bA (bA (bA (bA (bA (bA (bA (bA (bA (bA (bA (bA (bA (bA (bA (bA e).1).1).1).1).1).1).1).1).1).1).1).1).1).1).1).1).1).1).1).1).2
  have xc_BadName : XcI P w K mg base "BadName" ["name"] := ⟨z_BadName.1, z_BadName.2.1, _, fx_BadName, ["self", "name"], z_BadName.2.2.1, z_BadName.2.2.2.1, init1 FX_BadName sc_BadName_init z_BadName.1 (z_BadName.2.2.2.2 _ (by simp)) (in_BadName (zar X Gh (bA (bA (bA (bA (bA (bA (bA (bA (bA (bA (bA (bA (bA (bA (bA (bA (bA (bA (bA (bA (bA (bA e).1).1).1).1).1).1).1).1).1).1).1).1).1).1).1).1).1).1).1).1).1).2)), FX_BadName.bindsN (fun _ _ _ _ _ _ us hl => match us, hl with | [_, _], _ => rfl)⟩
  have z_BadWeight := zb0 X Gh (bA (bA (bA (bA (bA (bA (bA (bA (bA (bA (bA (bA (bA (bA (bA (bA (bA (bA (bA (bA e).1).1).1).1).1).1).1).1).1).1).1).1).1).1).1).1).1).1).1).2
  have xc_BadWeight : XcI P w K mg base "BadWeight" ["weight"] := ⟨z_BadWeight.1, z_BadWeight.2.1, _, fx_BadWeight, ["self", "weight"], z_BadWeight.2.2.1, z_BadWeight.2.2.2.1, init1 FX_BadWeight sc_BadWeight_init z_BadWeight.1 (z_BadWeight.2.2.2.2 _ (by simp)) (in_BadWeight (zar X Gh (bA (bA (bA (bA (bA (bA (bA (bA (bA (bA (bA (bA (bA (bA (bA (bA (bA (bA (bA (bA (bA (bA e).1).1).1).1).1).1).1).1).1).1).1).1).1).1).1).1).1).1).1).1).1).2)), FX_BadWeight.bindsN (fun _ _ _ _ _ _ us hl => match us, hl with | [_, _], _ => rfl)⟩
  have z_Clash := zb0 X Gh (bA (bA (bA (bA (bA (bA (bA (bA (bA (bA (bA (bA (bA (bA (bA (bA (bA (bA (bA e).1).1).1).1).1).1).1).1).1).1).1).1).1).1).1).1).1).1).2
  have xc_Clash : XcI P w K mg base "Clash" ["kind", "name"] := ⟨z_Clash.1, z_Clash.2.1, _, fx_Clash, ["self", "kind", "name"], z_Clash.2.2.1, z_Clash.2.2.2.1, init2 FX_Clash sc_Clash_init z_Clash.1 (z_Clash.2.2.2.2 _ (by simp)) (z_Clash.2.2.2.2 _ (by simp)) (in_Clash (zar X Gh (bA (bA (bA (bA (bA (bA (bA (bA (bA (bA (bA (bA (bA (bA (bA (bA (bA (bA (bA (bA (bA (bA e).1).1).1).1).1).1).1).1).1).1).1).1).1).1).1).1).1).1).1).1).1).2)), FX_Clash.bindsN (fun _ _ _ _ _ _ us hl => match us, hl with | [_, _, _], _ => rfl)⟩
  have z_Far := zb0 X Gh (bA (bA (bA (bA (bA (bA (bA (bA (bA (bA (bA (bA (bA (bA (bA (bA (bA (bA e).1).1).1).1).1).1).1).1).1).1).1).1).1).1).1).1).1).2
  have xc_Far : XcI P w K mg base "Far" ["kind", "name"] := ⟨z_Far.1, z_Far.2.1, _, fx_Far, ["self", "kind", "name"], z_Far.2.2.1, z_Far.2.2.2.1, init2 FX_Far sc_Far_init z_Far.1 (z_Far.2.2.2.2 _ (by simp)) (z_Far.2.2.2.2 _ (by simp)) (in_Far (zar X Gh (bA (bA (bA (bA (bA (bA (bA (bA (bA (bA (bA (bA (bA (bA (bA (bA (bA (bA (bA (bA (bA (bA e).1).1).1).1).1).1).1).1).1).1).1).1).1).1).1).1).1).1).1).1).1).2)), FX_Far.bindsN (fun _ _ _ _ _ _ us hl => match us, hl with | [_, _, _], _ => rfl)⟩
  have z_Flat := zb0 X Gh (bA (bA (bA (bA (bA (bA (bA (bA (bA (bA (bA (bA (bA (bA (bA (bA (bA e).1).1).1).1).1).1).1).1).1).1).1).1).1).1).1).1).2
  have xc_Flat : XcI P w K mg base "Flat" ["a"] := ⟨z_Flat.1, z_Flat.2.1, _, fx_Flat, ["self", "a"], z_Flat.2.2.1, z_Flat.2.2.2.1, init1 FX_Flat sc_Flat_init z_Flat.1 (z_Flat.2.2.2.2 _ (by simp)) (in_Flat (zar X Gh (bA (bA (bA (bA (bA (bA (bA (bA (bA (bA (bA (bA (bA (bA (bA (bA (bA (bA (bA (bA (bA (bA e).1).1).1).1).1).1).1).1).1).1).1).1).1).1).1).1).1).1).1).1).1).2)), FX_Flat.bindsN (fun _ _ _ _ _ _ us hl => match us, hl with | [_, _], _ => rfl)⟩
  have z_Full := zb0 X Gh (bA (bA (bA (bA (bA (bA (bA (bA (bA (bA (bA (bA (bA (bA (bA (bA e).1).1).1).1).1).1).1).1).1).1).1).1).1).1).1).2
  have xc_Full : XcI P w K mg base "Full" ["kind"] := ⟨z_Full.1, z_Full.2.1, _, fx_Full, ["self", "kind"], z_Full.2.2.1, z_Full.2.2.2.1, init1 FX_Full sc_Full_init z_Full.1 (z_Full.2.2.2.2 _ (by simp)) (in_Full (zar X Gh (bA (bA (bA (bA (bA (bA (bA (bA (bA (bA (bA (bA (bA (bA (bA (bA (bA (bA (bA (bA (bA (bA e).1).1).1).1).1).1).1).1).1).1).1).1).1).1).1).1).1).1).1).1).1).2)), FX_Full.bindsN (fun _ _ _ _ _ _ us hl => match us, hl with | [_, _], _ => rfl)⟩
  have z_InUse := zb0 X Gh (bA (bA (bA (bA (bA (bA (bA (bA (bA (bA (bA (bA (bA (bA (bA e).1).1).1).1).1).1).1).1).1).1).1).1).1).1).2
  have xc_InUse : XcI P w K mg base "InUse" ["kind", "name"] := ⟨z_InUse.1, z_InUse.2.1, _, fx_InUse, ["self", "kind", "name"], z_InUse.2.2.1, z_InUse.2.2.2.1, init2 FX_InUse sc_InUse_init z_InUse.1 (z_InUse.2.2.2.2 _ (by simp)) (z_InUse.2.2.2.2 _ (by simp)) (in_InUse (zar X Gh (bA (bA (bA (bA (bA (bA (bA (bA (bA (bA (bA (bA (bA (bA (bA (bA (bA (bA (bA (bA (bA (bA e).1).1).1).1).1).1).1).1).1).1).1).1).1).1).1).1).1).1).1).1).1).2)), FX_InUse.bindsN (fun _ _ _ _ _ _ us hl => match us, hl with | [_, _, _], _ => rfl)⟩
  have z_NoBook := zb0 X Gh (bA (bA (bA (bA (bA (bA (bA (bA (bA (bA (bA (bA (bA (bA e).1).1).1).1).1).1).1).1).1).1).1).1).1).2
  have xc_NoBook : XcI P w K mg base "NoBook" ["name"] := ⟨z_NoBook.1, z_NoBook.2.1, _, fx_NoBook, ["self", "name"], z_NoBook.2.2.1, z_NoBook.2.2.2.1, init1 FX_NoBook sc_NoBook_init z_NoBook.1 (z_NoBook.2.2.2.2 _ (by simp)) (in_NoBook (zar X Gh (bA (bA (bA (bA (bA (bA (bA (bA (bA (bA (bA (bA (bA (bA (bA (bA (bA (bA (bA (bA (bA (bA e).1).1).1).1).1).1).1).1).1).1).1).1).1).1).1).1).1).1).1).1).1).2)), FX_NoBook.bindsN (fun _ _ _ _ _ _ us hl => match us, hl with | [_, _], _ => rfl)⟩
  have z_NoBottom := zb0 X Gh (bA (bA (bA (bA (bA (bA (bA (bA (bA (bA (bA (bA (bA e).1).1).1).1).1).1).1).1).1).1).1).1).2
  have xc_NoBottom : XcI P w K mg base "NoBottom" ["top"] := ⟨z_NoBottom.1, z_NoBottom.2.1, _, fx_NoBottom, ["self", "top"], z_NoBottom.2.2.1, z_NoBottom.2.2.2.1, init1 FX_NoBottom sc_NoBottom_init z_NoBottom.1 (z_NoBottom.2.2.2.2 _ (by simp)) (in_NoBottom (zar X Gh (bA (bA (bA (bA (bA (bA (bA (bA (bA (bA (bA (bA (bA (bA (bA (bA (bA (bA (bA (bA (bA (bA e).1).1).1).1).1).1).1).1).1).1).1).1).1).1).1).1).1).1).1).1).1).2)), FX_NoBottom.bindsN (fun _ _ _ _ _ _ us hl => match us, hl with | [_, _], _ => rfl)⟩
  have z_NoSuch := zb0 X Gh (bA (bA (bA (bA (bA (bA (bA (bA (bA (bA (bA (bA e).1).1).1).1).1).1).1).1).1).1).1).2
  have xc_NoSuch : XcI P w K mg base "NoSuch" ["kind", "name"] := ⟨z_NoSuch.1, z_NoSuch.2.1, _, fx_NoSuch, ["self", "kind", "name"], z_NoSuch.2.2.1, z_NoSuch.2.2.2.1, init2 FX_NoSuch sc_NoSuch_init z_NoSuch.1 (z_NoSuch.2.2.2.2 _ (by simp)) (z_NoSuch.2.2.2.2 _ (by simp)) (in_NoSuch (zar X Gh (bA (bA (bA (bA (bA (bA (bA (bA (bA (bA (bA (bA (bA (bA (bA (bA (bA (bA (bA (bA (bA (bA e).1).1).1).1).1).1).1).1).1).1).1).1).1).1).1).1).1).1).1).1).1).2)), FX_NoSuch.bindsN (fun _ _ _ _ _ _ us hl => match us, hl with | [_, _, _], _ => rfl)⟩
  have z_NoTelling := zb0 X Gh (bA (bA (bA (bA (bA (bA (bA (bA (bA (bA (bA e).1).1).1).1).1).1).1).1).1).1).2
  have xc_NoTelling : XcI P w K mg base "NoTelling" ["name"] := ⟨z_NoTelling.1, z_NoTelling.2.1, _, fx_NoTelling, ["self", "name"], z_NoTelling.2.2.1, z_NoTelling.2.2.2.1, init1 FX_NoTelling sc_NoTelling_init z_NoTelling.1 (z_NoTelling.2.2.2.2 _ (by simp)) (in_NoTelling (zar X Gh (bA (bA (bA (bA (bA (bA (bA (bA (bA (bA (bA (bA (bA (bA (bA (bA (bA (bA (bA (bA (bA (bA e).1).1).1).1).1).1).1).1).1).1).1).1).1).1).1).1).1).1).1).1).1).2)), FX_NoTelling.bindsN (fun _ _ _ _ _ _ us hl => match us, hl with | [_, _], _ => rfl)⟩
  have z_NoText := zb0 X Gh (bA (bA (bA (bA (bA (bA (bA (bA (bA (bA e).1).1).1).1).1).1).1).1).1).2
  have xc_NoText : XcI P w K mg base "NoText" ["row"] := ⟨z_NoText.1, z_NoText.2.1, _, fx_NoText, ["self", "row"], z_NoText.2.2.1, z_NoText.2.2.2.1, init1 FX_NoText sc_NoText_init z_NoText.1 (z_NoText.2.2.2.2 _ (by simp)) (in_NoText (zar X Gh (bA (bA (bA (bA (bA (bA (bA (bA (bA (bA (bA (bA (bA (bA (bA (bA (bA (bA (bA (bA (bA (bA e).1).1).1).1).1).1).1).1).1).1).1).1).1).1).1).1).1).1).1).1).1).2)), FX_NoText.bindsN (fun _ _ _ _ _ _ us hl => match us, hl with | [_, _], _ => rfl)⟩
  have z_NoTie := zb0 X Gh (bA (bA (bA (bA (bA (bA (bA (bA (bA e).1).1).1).1).1).1).1).1).2
  have xc_NoTie : XcI P w K mg base "NoTie" ["name"] := ⟨z_NoTie.1, z_NoTie.2.1, _, fx_NoTie, ["self", "name"], z_NoTie.2.2.1, z_NoTie.2.2.2.1, init1 FX_NoTie sc_NoTie_init z_NoTie.1 (z_NoTie.2.2.2.2 _ (by simp)) (in_NoTie (zar X Gh (bA (bA (bA (bA (bA (bA (bA (bA (bA (bA (bA (bA (bA (bA (bA (bA (bA (bA (bA (bA (bA (bA e).1).1).1).1).1).1).1).1).1).1).1).1).1).1).1).1).1).1).1).1).1).2)), FX_NoTie.bindsN (fun _ _ _ _ _ _ us hl => match us, hl with | [_, _], _ => rfl)⟩
  have z_NotJoined := zb0 X Gh (bA (bA (bA (bA (bA (bA (bA (bA e).1).1).1).1).1).1).1).2
  have xc_NotJoined : XcI P w K mg base "NotJoined" ["start", "end"] := ⟨z_NotJoined.1, z_NotJoined.2.1, _, fx_NotJoined, ["self", "start", "end"], z_NotJoined.2.2.1, z_NotJoined.2.2.2.1, init2 FX_NotJoined sc_NotJoined_init z_NotJoined.1 (z_NotJoined.2.2.2.2 _ (by simp)) (z_NotJoined.2.2.2.2 _ (by simp)) (in_NotJoined (zar X Gh (bA (bA (bA (bA (bA (bA (bA (bA (bA (bA (bA (bA (bA (bA (bA (bA (bA (bA (bA (bA (bA (bA e).1).1).1).1).1).1).1).1).1).1).1).1).1).1).1).1).1).1).1).1).1).2)), FX_NotJoined.bindsN (fun _ _ _ _ _ _ us hl => match us, hl with | [_, _, _], _ => rfl)⟩
  have z_NotSheer := zb0 X Gh (bA (bA (bA (bA (bA (bA (bA e).1).1).1).1).1).1).2
  have xc_NotSheer : XcI P w K mg base "NotSheer" ["part"] := ⟨z_NotSheer.1, z_NotSheer.2.1, _, fx_NotSheer, ["self", "part"], z_NotSheer.2.2.1, z_NotSheer.2.2.2.1, init1 FX_NotSheer sc_NotSheer_init z_NotSheer.1 (z_NotSheer.2.2.2.2 _ (by simp)) (in_NotSheer (zar X Gh (bA (bA (bA (bA (bA (bA (bA (bA (bA (bA (bA (bA (bA (bA (bA (bA (bA (bA (bA (bA (bA (bA e).1).1).1).1).1).1).1).1).1).1).1).1).1).1).1).1).1).1).1).1).1).2)), FX_NotSheer.bindsN (fun _ _ _ _ _ _ us hl => match us, hl with | [_, _], _ => rfl)⟩
  have z_NotVouched := zb0 X Gh (bA (bA (bA (bA (bA (bA e).1).1).1).1).1).2
  have xc_NotVouched : XcI P w K mg base "NotVouched" ["voucher", "name"] := ⟨z_NotVouched.1, z_NotVouched.2.1, _, fx_NotVouched, ["self", "voucher", "name"], z_NotVouched.2.2.1, z_NotVouched.2.2.2.1, init2 FX_NotVouched sc_NotVouched_init z_NotVouched.1 (z_NotVouched.2.2.2.2 _ (by simp)) (z_NotVouched.2.2.2.2 _ (by simp)) (in_NotVouched (zar X Gh (bA (bA (bA (bA (bA (bA (bA (bA (bA (bA (bA (bA (bA (bA (bA (bA (bA (bA (bA (bA (bA (bA e).1).1).1).1).1).1).1).1).1).1).1).1).1).1).1).1).1).1).1).1).1).2)), FX_NotVouched.bindsN (fun _ _ _ _ _ _ us hl => match us, hl with | [_, _, _], _ => rfl)⟩
  have z_SameScale := zb0 X Gh (bA (bA (bA (bA (bA e).1).1).1).1).2
  have xc_SameScale : XcI P w K mg base "SameScale" ["name"] := ⟨z_SameScale.1, z_SameScale.2.1, _, fx_SameScale, ["self", "name"], z_SameScale.2.2.1, z_SameScale.2.2.2.1, init1 FX_SameScale sc_SameScale_init z_SameScale.1 (z_SameScale.2.2.2.2 _ (by simp)) (in_SameScale (zar X Gh (bA (bA (bA (bA (bA (bA (bA (bA (bA (bA (bA (bA (bA (bA (bA (bA (bA (bA (bA (bA (bA (bA e).1).1).1).1).1).1).1).1).1).1).1).1).1).1).1).1).1).1).1).1).1).2)), FX_SameScale.bindsN (fun _ _ _ _ _ _ us hl => match us, hl with | [_, _], _ => rfl)⟩
  have z_Taken := zb0 X Gh (bA (bA (bA (bA e).1).1).1).2
  have xc_Taken : XcI P w K mg base "Taken" ["kind", "name"] := ⟨z_Taken.1, z_Taken.2.1, _, fx_Taken, ["self", "kind", "name"], z_Taken.2.2.1, z_Taken.2.2.2.1, init2 FX_Taken sc_Taken_init z_Taken.1 (z_Taken.2.2.2.2 _ (by simp)) (z_Taken.2.2.2.2 _ (by simp)) (in_Taken (zar X Gh (bA (bA (bA (bA (bA (bA (bA (bA (bA (bA (bA (bA (bA (bA (bA (bA (bA (bA (bA (bA (bA (bA e).1).1).1).1).1).1).1).1).1).1).1).1).1).1).1).1).1).1).1).1).1).2)), FX_Taken.bindsN (fun _ _ _ _ _ _ us hl => match us, hl with | [_, _, _], _ => rfl)⟩
  have z_Vouched := zb0 X Gh (bA (bA (bA e).1).1).2
  have xc_Vouched : XcI P w K mg base "Vouched" ["voucher", "name"] := ⟨z_Vouched.1, z_Vouched.2.1, _, fx_Vouched, ["self", "voucher", "name"], z_Vouched.2.2.1, z_Vouched.2.2.2.1, init2 FX_Vouched sc_Vouched_init z_Vouched.1 (z_Vouched.2.2.2.2 _ (by simp)) (z_Vouched.2.2.2.2 _ (by simp)) (in_Vouched (zar X Gh (bA (bA (bA (bA (bA (bA (bA (bA (bA (bA (bA (bA (bA (bA (bA (bA (bA (bA (bA (bA (bA (bA e).1).1).1).1).1).1).1).1).1).1).1).1).1).1).1).1).1).1).1).1).1).2)), FX_Vouched.bindsN (fun _ _ _ _ _ _ us hl => match us, hl with | [_, _, _], _ => rfl)⟩
  have xk_BadName : XcK P w K mg base "BadName" ["name"] ["name"] := ⟨z_BadName.1, z_BadName.2.1, _, fx_BadName, ["self", "name"], z_BadName.2.2.1, z_BadName.2.2.2.1, init1 FX_BadName sc_BadName_init z_BadName.1 (z_BadName.2.2.2.2 _ (by simp)) (in_BadName (zar X Gh (bA (bA (bA (bA (bA (bA (bA (bA (bA (bA (bA (bA (bA (bA (bA (bA (bA (bA (bA (bA (bA (bA e).1).1).1).1).1).1).1).1).1).1).1).1).1).1).1).1).1).1).1).1).1).2)), kbnN FX_BadName 1 ["name"] (List.range 2) (fun _ _ _ _ _ _ us ws l1 l2 => match us, l1, ws, l2 with | [_], _, [_], _ => rfl)⟩
  have xk_BadWeight : XcK P w K mg base "BadWeight" ["weight"] ["weight"] := ⟨z_BadWeight.1, z_BadWeight.2.1, _, fx_BadWeight, ["self", "weight"], z_BadWeight.2.2.1, z_BadWeight.2.2.2.1, init1 FX_BadWeight sc_BadWeight_init z_BadWeight.1 (z_BadWeight.2.2.2.2 _ (by simp)) (in_BadWeight (zar X Gh (bA (bA (bA (bA (bA (bA (bA (bA (bA (bA (bA (bA (bA (bA (bA (bA (bA (bA (bA (bA (bA (bA e).1).1).1).1).1).1).1).1).1).1).1).1).1).1).1).1).1).1).1).1).1).2)), kbnN FX_BadWeight 1 ["weight"] (List.range 2) (fun _ _ _ _ _ _ us ws l1 l2 => match us, l1, ws, l2 with | [_], _, [_], _ => rfl)⟩
  have xk_Clash : XcK P w K mg base "Clash" ["kind", "name"] ["kind", "name"] := ⟨z_Clash.1, z_Clash.2.1, _, fx_Clash, ["self", "kind", "name"], z_Clash.2.2.1, z_Clash.2.2.2.1, init2 FX_Clash sc_Clash_init z_Clash.1 (z_Clash.2.2.2.2 _ (by simp)) (z_Clash.2.2.2.2 _ (by simp)) (in_Clash (zar X Gh (bA (bA (bA (bA (bA (bA (bA (bA (bA (bA (bA (bA (bA (bA (bA (bA (bA (bA (bA (bA (bA (bA e).1).1).1).1).1).1).1).1).1).1).1).1).1).1).1).1).1).1).1).1).1).2)), kbnN FX_Clash 1 ["kind", "name"] (List.range 3) (fun _ _ _ _ _ _ us ws l1 l2 => match us, l1, ws, l2 with | [_], _, [_, _], _ => rfl)⟩
  have xk_Far : XcK P w K mg base "Far" ["kind", "name"] ["kind", "name"] := ⟨z_Far.1, z_Far.2.1, _, fx_Far, ["self", "kind", "name"], z_Far.2.2.1, z_Far.2.2.2.1, init2 FX_Far sc_Far_init z_Far.1 (z_Far.2.2.2.2 _ (by simp)) (z_Far.2.2.2.2 _ (by simp)) (in_Far (zar X Gh (bA (bA (bA (bA (bA (bA (bA (bA (bA (bA (bA (bA (bA (bA (bA (bA (bA (bA (bA (bA (bA (bA e).1).1).1).1).1).1).1).1).1).1).1).1).1).1).1).1).1).1).1).1).1).2)), kbnN FX_Far 1 ["kind", "name"] (List.range 3) (fun _ _ _ _ _ _ us ws l1 l2 => match us, l1, ws, l2 with | [_], _, [_, _], _ => rfl)⟩
  have xk_Flat : XcK P w K mg base "Flat" ["a"] ["a"] := ⟨z_Flat.1, z_Flat.2.1, _, fx_Flat, ["self", "a"], z_Flat.2.2.1, z_Flat.2.2.2.1, init1 FX_Flat sc_Flat_init z_Flat.1 (z_Flat.2.2.2.2 _ (by simp)) (in_Flat (zar X Gh (bA (bA (bA (bA (bA (bA (bA (bA (bA (bA (bA (bA (bA (bA (bA (bA (bA (bA (bA (bA (bA (bA e).1).1).1).1).1).1).1).1).1).1).1).1).1).1).1).1).1).1).1).1).1).2)), kbnN FX_Flat 1 ["a"] (List.range 2) (fun _ _ _ _ _ _ us ws l1 l2 => match us, l1, ws, l2 with | [_], _, [_], _ => rfl)⟩
  have xk_Full : XcK P w K mg base "Full" ["kind"] ["kind"] := ⟨z_Full.1, z_Full.2.1, _, fx_Full, ["self", "kind"], z_Full.2.2.1, z_Full.2.2.2.1, init1 FX_Full sc_Full_init z_Full.1 (z_Full.2.2.2.2 _ (by simp)) (in_Full (zar X Gh (bA (bA (bA (bA (bA (bA (bA (bA (bA (bA (bA (bA (bA (bA (bA (bA (bA (bA (bA (bA (bA (bA e).1).1).1).1).1).1).1).1).1).1).1).1).1).1).1).1).1).1).1).1).1).2)), kbnN FX_Full 1 ["kind"] (List.range 2) (fun _ _ _ _ _ _ us ws l1 l2 => match us, l1, ws, l2 with | [_], _, [_], _ => rfl)⟩
  have xk_InUse : XcK P w K mg base "InUse" ["kind", "name"] ["kind", "name"] := ⟨z_InUse.1, z_InUse.2.1, _, fx_InUse, ["self", "kind", "name"], z_InUse.2.2.1, z_InUse.2.2.2.1, init2 FX_InUse sc_InUse_init z_InUse.1 (z_InUse.2.2.2.2 _ (by simp)) (z_InUse.2.2.2.2 _ (by simp)) (in_InUse (zar X Gh (bA (bA (bA (bA (bA (bA (bA (bA (bA (bA (bA (bA (bA (bA (bA (bA (bA (bA (bA (bA (bA (bA e).1).1).1).1).1).1).1).1).1).1).1).1).1).1).1).1).1).1).1).1).1).2)), kbnN FX_InUse 1 ["kind", "name"] (List.range 3) (fun _ _ _ _ _ _ us ws l1 l2 => match us, l1, ws, l2 with | [_], _, [_, _], _ => rfl)⟩
  have xk_NoBook : XcK P w K mg base "NoBook" ["name"] ["name"] := ⟨z_NoBook.1, z_NoBook.2.1, _, fx_NoBook, ["self", "name"], z_NoBook.2.2.1, z_NoBook.2.2.2.1, init1 FX_NoBook sc_NoBook_init z_NoBook.1 (z_NoBook.2.2.2.2 _ (by simp)) (in_NoBook (zar X Gh (bA (bA (bA (bA (bA (bA (bA (bA (bA (bA (bA (bA (bA (bA (bA (bA (bA (bA (bA (bA (bA (bA e).1).1).1).1).1).1).1).1).1).1).1).1).1).1).1).1).1).1).1).1).1).2)), kbnN FX_NoBook 1 ["name"] (List.range 2) (fun _ _ _ _ _ _ us ws l1 l2 => match us, l1, ws, l2 with | [_], _, [_], _ => rfl)⟩
  have xk_NoBottom : XcK P w K mg base "NoBottom" ["top"] ["top"] := ⟨z_NoBottom.1, z_NoBottom.2.1, _, fx_NoBottom, ["self", "top"], z_NoBottom.2.2.1, z_NoBottom.2.2.2.1, init1 FX_NoBottom sc_NoBottom_init z_NoBottom.1 (z_NoBottom.2.2.2.2 _ (by simp)) (in_NoBottom (zar X Gh (bA (bA (bA (bA (bA (bA (bA (bA (bA (bA (bA (bA (bA (bA (bA (bA (bA (bA (bA (bA (bA (bA e).1).1).1).1).1).1).1).1).1).1).1).1).1).1).1).1).1).1).1).1).1).2)), kbnN FX_NoBottom 1 ["top"] (List.range 2) (fun _ _ _ _ _ _ us ws l1 l2 => match us, l1, ws, l2 with | [_], _, [_], _ => rfl)⟩
  have xk_NoSuch : XcK P w K mg base "NoSuch" ["kind", "name"] ["kind", "name"] := ⟨z_NoSuch.1, z_NoSuch.2.1, _, fx_NoSuch, ["self", "kind", "name"], z_NoSuch.2.2.1, z_NoSuch.2.2.2.1, init2 FX_NoSuch sc_NoSuch_init z_NoSuch.1 (z_NoSuch.2.2.2.2 _ (by simp)) (z_NoSuch.2.2.2.2 _ (by simp)) (in_NoSuch (zar X Gh (bA (bA (bA (bA (bA (bA (bA (bA (bA (bA (bA (bA (bA (bA (bA (bA (bA (bA (bA (bA (bA (bA e).1).1).1).1).1).1).1).1).1).1).1).1).1).1).1).1).1).1).1).1).1).2)), kbnN FX_NoSuch 1 ["kind", "name"] (List.range 3) (fun _ _ _ _ _ _ us ws l1 l2 => match us, l1, ws, l2 with | [_], _, [_, _], _ => rfl)⟩
  have xk_NoTelling : XcK P w K mg base "NoTelling" ["name"] ["name"] := ⟨z_NoTelling.1, z_NoTelling.2.1, _, fx_NoTelling, ["self", "name"], z_NoTelling.2.2.1, z_NoTelling.2.2.2.1, init1 FX_NoTelling sc_NoTelling_init z_NoTelling.1 (z_NoTelling.2.2.2.2 _ (by simp)) (in_NoTelling (zar X Gh (bA (bA (bA (bA (bA (bA (bA (bA (bA (bA (bA (bA (bA (bA (bA (bA (bA (bA (bA (bA (bA (bA e).1).1).1).1).1).1).1).1).1).1).1).1).1).1).1).1).1).1).1).1).1).2)), kbnN FX_NoTelling 1 ["name"] (List.range 2) (fun _ _ _ _ _ _ us ws l1 l2 => match us, l1, ws, l2 with | [_], _, [_], _ => rfl)⟩
  have xk_NoText : XcK P w K mg base "NoText" ["row"] ["row"] := ⟨z_NoText.1, z_NoText.2.1, _, fx_NoText, ["self", "row"], z_NoText.2.2.1, z_NoText.2.2.2.1, init1 FX_NoText sc_NoText_init z_NoText.1 (z_NoText.2.2.2.2 _ (by simp)) (in_NoText (zar X Gh (bA (bA (bA (bA (bA (bA (bA (bA (bA (bA (bA (bA (bA (bA (bA (bA (bA (bA (bA (bA (bA (bA e).1).1).1).1).1).1).1).1).1).1).1).1).1).1).1).1).1).1).1).1).1).2)), kbnN FX_NoText 1 ["row"] (List.range 2) (fun _ _ _ _ _ _ us ws l1 l2 => match us, l1, ws, l2 with | [_], _, [_], _ => rfl)⟩
  have xk_NoTie : XcK P w K mg base "NoTie" ["name"] ["name"] := ⟨z_NoTie.1, z_NoTie.2.1, _, fx_NoTie, ["self", "name"], z_NoTie.2.2.1, z_NoTie.2.2.2.1, init1 FX_NoTie sc_NoTie_init z_NoTie.1 (z_NoTie.2.2.2.2 _ (by simp)) (in_NoTie (zar X Gh (bA (bA (bA (bA (bA (bA (bA (bA (bA (bA (bA (bA (bA (bA (bA (bA (bA (bA (bA (bA (bA (bA e).1).1).1).1).1).1).1).1).1).1).1).1).1).1).1).1).1).1).1).1).1).2)), kbnN FX_NoTie 1 ["name"] (List.range 2) (fun _ _ _ _ _ _ us ws l1 l2 => match us, l1, ws, l2 with | [_], _, [_], _ => rfl)⟩
  have xk_NotJoined : XcK P w K mg base "NotJoined" ["start", "end"] ["start", "end"] := ⟨z_NotJoined.1, z_NotJoined.2.1, _, fx_NotJoined, ["self", "start", "end"], z_NotJoined.2.2.1, z_NotJoined.2.2.2.1, init2 FX_NotJoined sc_NotJoined_init z_NotJoined.1 (z_NotJoined.2.2.2.2 _ (by simp)) (z_NotJoined.2.2.2.2 _ (by simp)) (in_NotJoined (zar X Gh (bA (bA (bA (bA (bA (bA (bA (bA (bA (bA (bA (bA (bA (bA (bA (bA (bA (bA (bA (bA (bA (bA e).1).1).1).1).1).1).1).1).1).1).1).1).1).1).1).1).1).1).1).1).1).2)), kbnN FX_NotJoined 1 ["start", "end"] (List.range 3) (fun _ _ _ _ _ _ us ws l1 l2 => match us, l1, ws, l2 with | [_], _, [_, _], _ => rfl)⟩
  have xk_NotSheer : XcK P w K mg base "NotSheer" ["part"] ["part"] := ⟨z_NotSheer.1, z_NotSheer.2.1, _, fx_NotSheer, ["self", "part"], z_NotSheer.2.2.1, z_NotSheer.2.2.2.1, init1 FX_NotSheer sc_NotSheer_init z_NotSheer.1 (z_NotSheer.2.2.2.2 _ (by simp)) (in_NotSheer (zar X Gh (bA (bA (bA (bA (bA (bA (bA (bA (bA (bA (bA (bA (bA (bA (bA (bA (bA (bA (bA (bA (bA (bA e).1).1).1).1).1).1).1).1).1).1).1).1).1).1).1).1).1).1).1).1).1).2)), kbnN FX_NotSheer 1 ["part"] (List.range 2) (fun _ _ _ _ _ _ us ws l1 l2 => match us, l1, ws, l2 with | [_], _, [_], _ => rfl)⟩
  have xk_NotVouched : XcK P w K mg base "NotVouched" ["voucher", "name"] ["voucher", "name"] := ⟨z_NotVouched.1, z_NotVouched.2.1, _, fx_NotVouched, ["self", "voucher", "name"], z_NotVouched.2.2.1, z_NotVouched.2.2.2.1, init2 FX_NotVouched sc_NotVouched_init z_NotVouched.1 (z_NotVouched.2.2.2.2 _ (by simp)) (z_NotVouched.2.2.2.2 _ (by simp)) (in_NotVouched (zar X Gh (bA (bA (bA (bA (bA (bA (bA (bA (bA (bA (bA (bA (bA (bA (bA (bA (bA (bA (bA (bA (bA (bA e).1).1).1).1).1).1).1).1).1).1).1).1).1).1).1).1).1).1).1).1).1).2)), kbnN FX_NotVouched 1 ["voucher", "name"] (List.range 3) (fun _ _ _ _ _ _ us ws l1 l2 => match us, l1, ws, l2 with | [_], _, [_, _], _ => rfl)⟩
  have xk_SameScale : XcK P w K mg base "SameScale" ["name"] ["name"] := ⟨z_SameScale.1, z_SameScale.2.1, _, fx_SameScale, ["self", "name"], z_SameScale.2.2.1, z_SameScale.2.2.2.1, init1 FX_SameScale sc_SameScale_init z_SameScale.1 (z_SameScale.2.2.2.2 _ (by simp)) (in_SameScale (zar X Gh (bA (bA (bA (bA (bA (bA (bA (bA (bA (bA (bA (bA (bA (bA (bA (bA (bA (bA (bA (bA (bA (bA e).1).1).1).1).1).1).1).1).1).1).1).1).1).1).1).1).1).1).1).1).1).2)), kbnN FX_SameScale 1 ["name"] (List.range 2) (fun _ _ _ _ _ _ us ws l1 l2 => match us, l1, ws, l2 with | [_], _, [_], _ => rfl)⟩
  have xk_Taken : XcK P w K mg base "Taken" ["kind", "name"] ["kind", "name"] := ⟨z_Taken.1, z_Taken.2.1, _, fx_Taken, ["self", "kind", "name"], z_Taken.2.2.1, z_Taken.2.2.2.1, init2 FX_Taken sc_Taken_init z_Taken.1 (z_Taken.2.2.2.2 _ (by simp)) (z_Taken.2.2.2.2 _ (by simp)) (in_Taken (zar X Gh (bA (bA (bA (bA (bA (bA (bA (bA (bA (bA (bA (bA (bA (bA (bA (bA (bA (bA (bA (bA (bA (bA e).1).1).1).1).1).1).1).1).1).1).1).1).1).1).1).1).1).1).1).1).1).2)), kbnN FX_Taken 1 ["kind", "name"] (List.range 3) (fun _ _ _ _ _ _ us ws l1 l2 => match us, l1, ws, l2 with | [_], _, [_, _], _ => rfl)⟩
  have xk_Vouched : XcK P w K mg base "Vouched" ["voucher", "name"] ["voucher", "name"] := ⟨z_Vouched.1, z_Vouched.2.1, _, fx_Vouched, ["self", "voucher", "name"], z_Vouched.2.2.1, z_Vouched.2.2.2.1, init2 FX_Vouched sc_Vouched_init z_Vouched.1 (z_Vouched.2.2.2.2 _ (by simp)) (z_Vouched.2.2.2.2 _ (by simp)) (in_Vouched (zar X Gh (bA (bA (bA (bA (bA (bA (bA (bA (bA (bA (bA (bA (bA (bA (bA (bA (bA (bA (bA (bA (bA (bA e).1).1).1).1).1).1).1).1).1).1).1).1).1).1).1).1).1).1).1).1).1).2)), kbnN FX_Vouched 1 ["voucher", "name"] (List.range 3) (fun _ _ _ _ _ _ us ws l1 l2 => match us, l1, ws, l2 with | [_], _, [_, _], _ => rfl)⟩
  intro k
  induction k with
  | zero => exact ⟨⟨He.ga K "_law_start", fd__law_start, ["_law_script"], rfl, fn_zero, He.glo_ok X Gh (c.fact 0 (f := .glo "_law_start") rfl), FD__law_start.kp, FD__law_start.bindsN (fun _ _ _ _ _ _ us hl => match us, hl with | [_], _ => rfl)⟩,
    ⟨He.ga K "_law_draw", fd__law_draw, ["_law_state", "_law_many"], rfl, fn_zero, He.glo_ok X Gh (c.fact 1 (f := .glo "_law_draw") rfl), FD__law_draw.kp, FD__law_draw.bindsN (fun _ _ _ _ _ _ us hl => match us, hl with | [_, _], _ => rfl)⟩,
    ⟨He.ga K "_law_mix", fd__law_mix, ["_law_state"], rfl, fn_zero, He.glo_ok X Gh (c.fact 2 (f := .glo "_law_mix") rfl), FD__law_mix.kp, FD__law_mix.bindsN (fun _ _ _ _ _ _ us hl => match us, hl with | [_], _ => rfl)⟩,
    ⟨He.ga K "_law_same", fd__law_same, ["_law_found", "_law_want"], rfl, fn_zero, He.glo_ok X Gh (c.fact 3 (f := .glo "_law_same") rfl), FD__law_same.kp, FD__law_same.bindsN (fun _ _ _ _ _ _ us hl => match us, hl with | [_, _], _ => rfl)⟩,
    ⟨He.ga K "_law_alone", fd__law_alone, ["_law_e"], rfl, fn_zero, He.glo_ok X Gh (c.fact 4 (f := .glo "_law_alone") rfl), FD__law_alone.kp, FD__law_alone.bindsN (fun _ _ _ _ _ _ us hl => match us, hl with | [_], _ => rfl)⟩,
    ⟨He.ga K "_law_some_thing", fd__law_some_thing, ["_law_state"], rfl, fn_zero, He.glo_ok X Gh (c.fact 5 (f := .glo "_law_some_thing") rfl), FD__law_some_thing.kp, FD__law_some_thing.bindsN (fun _ _ _ _ _ _ us hl => match us, hl with | [_], _ => rfl)⟩,
    ⟨He.ga K "_law_single", fd__law_single, ["_law_way", "_law_one"], rfl, fn_zero, He.glo_ok X Gh (c.fact 6 (f := .glo "_law_single") rfl), FD__law_single.kp, FD__law_single.bindsN (fun _ _ _ _ _ _ us hl => match us, hl with | [_, _], _ => rfl)⟩,
    ⟨He.ga K "_law_by_names", fd__law_by_names, ["_law_way", "_law_one", "_law_other"], rfl, fn_zero, He.glo_ok X Gh (c.fact 7 (f := .glo "_law_by_names") rfl), FD__law_by_names.kp, FD__law_by_names.bindsN (fun _ _ _ _ _ _ us hl => match us, hl with | [_, _, _], _ => rfl)⟩,
    ⟨He.ga K "_law_by_places", fd__law_by_places, ["_law_way", "_law_one", "_law_other"], rfl, fn_zero, He.glo_ok X Gh (c.fact 8 (f := .glo "_law_by_places") rfl), FD__law_by_places.kp, FD__law_by_places.bindsN (fun _ _ _ _ _ _ us hl => match us, hl with | [_, _, _], _ => rfl)⟩,
    ⟨He.ga K "_law_fields", fd__law_fields, ["_law_e", "_law_way"], rfl, fn_zero, He.glo_ok X Gh (c.fact 9 (f := .glo "_law_fields") rfl), FD__law_fields.kp, FD__law_fields.bindsN (fun _ _ _ _ _ _ us hl => match us, hl with | [_, _], _ => rfl)⟩,
    ⟨He.ga K "_law_mine", fd__law_mine, ["_law_e"], rfl, fn_zero, He.glo_ok X Gh (c.fact 10 (f := .glo "_law_mine") rfl), FD__law_mine.kp, FD__law_mine.bindsN (fun _ _ _ _ _ _ us hl => match us, hl with | [_], _ => rfl)⟩,
    ⟨He.ga K "law", fd_law, ["_law_script"], rfl, fn_zero, He.glo_ok X Gh (c.fact 11 (f := .glo "law") rfl), FD_law.kp, FD_law.bindsN (fun _ _ _ _ _ _ us hl => match us, hl with | [_], _ => rfl)⟩,
    xc_BadName,
    xc_BadWeight,
    xc_Clash,
    xc_Far,
    xc_Flat,
    xc_Full,
    xc_InUse,
    xc_NoBook,
    xc_NoBottom,
    xc_NoSuch,
    xc_NoTelling,
    xc_NoText,
    xc_NoTie,
    xc_NotJoined,
    xc_NotSheer,
    xc_NotVouched,
    xc_SameScale,
    xc_Taken,
    xc_Vouched,
    xk_BadName,
    xk_BadWeight,
    xk_Clash,
    xk_Far,
    xk_Flat,
    xk_Full,
    xk_InUse,
    xk_NoBook,
    xk_NoBottom,
    xk_NoSuch,
    xk_NoTelling,
    xk_NoText,
    xk_NoTie,
    xk_NotJoined,
    xk_NotSheer,
    xk_NotVouched,
    xk_SameScale,
    xk_Taken,
    xk_Vouched⟩
  | succ k G => exact ⟨⟨He.ga K "_law_start", fd__law_start, ["_law_script"], rfl, fn_ok (tbl := tbl) (fi := 4) FD__law_start sc__law_start rfl rfl (fun _ _ _ _ _ _ _ cq => jb__law_start T G cq), He.glo_ok X Gh (c.fact 0 (f := .glo "_law_start") rfl), FD__law_start.kp, FD__law_start.bindsN (fun _ _ _ _ _ _ us hl => match us, hl with | [_], _ => rfl)⟩,
    ⟨He.ga K "_law_draw", fd__law_draw, ["_law_state", "_law_many"], rfl, fn_ok (tbl := tbl) (fi := 6) FD__law_draw sc__law_draw rfl rfl (fun _ _ _ _ _ _ _ cq => jb__law_draw T G cq), He.glo_ok X Gh (c.fact 1 (f := .glo "_law_draw") rfl), FD__law_draw.kp, FD__law_draw.bindsN (fun _ _ _ _ _ _ us hl => match us, hl with | [_, _], _ => rfl)⟩,
    ⟨He.ga K "_law_mix", fd__law_mix, ["_law_state"], rfl, fn_ok (tbl := tbl) (fi := 5) FD__law_mix sc__law_mix rfl rfl (fun _ _ _ _ _ _ _ cq => jb__law_mix T G cq), He.glo_ok X Gh (c.fact 2 (f := .glo "_law_mix") rfl), FD__law_mix.kp, FD__law_mix.bindsN (fun _ _ _ _ _ _ us hl => match us, hl with | [_], _ => rfl)⟩,
    ⟨He.ga K "_law_same", fd__law_same, ["_law_found", "_law_want"], rfl, fn_ok (tbl := tbl) (fi := 7) FD__law_same sc__law_same rfl rfl (fun _ _ _ _ _ _ _ cq => jb__law_same T G cq), He.glo_ok X Gh (c.fact 3 (f := .glo "_law_same") rfl), FD__law_same.kp, FD__law_same.bindsN (fun _ _ _ _ _ _ us hl => match us, hl with | [_, _], _ => rfl)⟩,
    ⟨He.ga K "_law_alone", fd__law_alone, ["_law_e"], rfl, fn_ok (tbl := tbl) (fi := 77) FD__law_alone sc__law_alone rfl rfl (fun _ _ _ _ _ _ _ cq => jb__law_alone T G cq), He.glo_ok X Gh (c.fact 4 (f := .glo "_law_alone") rfl), FD__law_alone.kp, FD__law_alone.bindsN (fun _ _ _ _ _ _ us hl => match us, hl with | [_], _ => rfl)⟩,
    ⟨He.ga K "_law_some_thing", fd__law_some_thing, ["_law_state"], rfl, fn_ok (tbl := tbl) (fi := 143) FD__law_some_thing sc__law_some_thing rfl rfl (fun _ _ _ _ _ _ _ cq => jb__law_some_thing T G cq), He.glo_ok X Gh (c.fact 5 (f := .glo "_law_some_thing") rfl), FD__law_some_thing.kp, FD__law_some_thing.bindsN (fun _ _ _ _ _ _ us hl => match us, hl with | [_], _ => rfl)⟩,
    ⟨He.ga K "_law_single", fd__law_single, ["_law_way", "_law_one"], rfl, fn_ok (tbl := tbl) (fi := 447) FD__law_single sc__law_single rfl rfl (fun _ _ _ _ _ _ _ cq => jb__law_single T G cq), He.glo_ok X Gh (c.fact 6 (f := .glo "_law_single") rfl), FD__law_single.kp, FD__law_single.bindsN (fun _ _ _ _ _ _ us hl => match us, hl with | [_, _], _ => rfl)⟩,
    ⟨He.ga K "_law_by_names", fd__law_by_names, ["_law_way", "_law_one", "_law_other"], rfl, fn_ok (tbl := tbl) (fi := 448) FD__law_by_names sc__law_by_names rfl rfl (fun _ _ _ _ _ _ _ cq => jb__law_by_names T G cq), He.glo_ok X Gh (c.fact 7 (f := .glo "_law_by_names") rfl), FD__law_by_names.kp, FD__law_by_names.bindsN (fun _ _ _ _ _ _ us hl => match us, hl with | [_, _, _], _ => rfl)⟩,
    ⟨He.ga K "_law_by_places", fd__law_by_places, ["_law_way", "_law_one", "_law_other"], rfl, fn_ok (tbl := tbl) (fi := 449) FD__law_by_places sc__law_by_places rfl rfl (fun _ _ _ _ _ _ _ cq => jb__law_by_places T G cq), He.glo_ok X Gh (c.fact 8 (f := .glo "_law_by_places") rfl), FD__law_by_places.kp, FD__law_by_places.bindsN (fun _ _ _ _ _ _ us hl => match us, hl with | [_, _, _], _ => rfl)⟩,
    ⟨He.ga K "_law_fields", fd__law_fields, ["_law_e", "_law_way"], rfl, fn_ok (tbl := tbl) (fi := 450) FD__law_fields sc__law_fields rfl rfl (fun _ _ _ _ _ _ _ cq => jb__law_fields T G cq), He.glo_ok X Gh (c.fact 9 (f := .glo "_law_fields") rfl), FD__law_fields.kp, FD__law_fields.bindsN (fun _ _ _ _ _ _ us hl => match us, hl with | [_, _], _ => rfl)⟩,
    ⟨He.ga K "_law_mine", fd__law_mine, ["_law_e"], rfl, fn_ok (tbl := tbl) (fi := 144) FD__law_mine sc__law_mine rfl rfl (fun _ _ _ _ _ _ _ cq => jb__law_mine T G cq), He.glo_ok X Gh (c.fact 10 (f := .glo "_law_mine") rfl), FD__law_mine.kp, FD__law_mine.bindsN (fun _ _ _ _ _ _ us hl => match us, hl with | [_], _ => rfl)⟩,
    ⟨He.ga K "law", fd_law, ["_law_script"], rfl, fn_ok (tbl := tbl) (fi := 451) FD_law sc_law rfl rfl (fun _ _ _ _ _ _ _ cq => jb_law T G cq), He.glo_ok X Gh (c.fact 11 (f := .glo "law") rfl), FD_law.kp, FD_law.bindsN (fun _ _ _ _ _ _ us hl => match us, hl with | [_], _ => rfl)⟩,
    xc_BadName,
    xc_BadWeight,
    xc_Clash,
    xc_Far,
    xc_Flat,
    xc_Full,
    xc_InUse,
    xc_NoBook,
    xc_NoBottom,
    xc_NoSuch,
    xc_NoTelling,
    xc_NoText,
    xc_NoTie,
    xc_NotJoined,
    xc_NotSheer,
    xc_NotVouched,
    xc_SameScale,
    xc_Taken,
    xc_Vouched,
    xk_BadName,
    xk_BadWeight,
    xk_Clash,
    xk_Far,
    xk_Flat,
    xk_Full,
    xk_InUse,
    xk_NoBook,
    xk_NoBottom,
    xk_NoSuch,
    xk_NoTelling,
    xk_NoText,
    xk_NoTie,
    xk_NotJoined,
    xk_NotSheer,
    xk_NotVouched,
    xk_SameScale,
    xk_Taken,
    xk_Vouched⟩
theorem law_fn {P : Program} {w : World} {K : PySem.W.Frag} {h : Heap} {mg : Str → Option Value} {fa : Addr} (X : K.In h) (Gh : h.Ns mainGlobals mg) (hlw : mg ("law" : Str) = some (.ref fa)) (c : He.SaysD hfa hfn K) (e : hex K = true) (D : tbsU hts K = keyU hts w) :
    ∃ fd : FuncData, (∀ (s : Shared) (v : Value), BindsTo s fd ⟨[v], []⟩ [("_law_script", v)]) ∧ ∀ base : Heap, K.In base → base.Ns mainGlobals mg → (∀ p ∈ tabCs K, LamX.TabB base mg p.1 p.2) → FnOk P w K mg base (L2N.CX P w) (2 * LV + 3) fa fd ["_law_script"] (spF ⟨K, [], P, w⟩ mg (call tbl LV) 451 1) := by
  obtain ⟨fd, F⟩ := c.def_ 11 (d := d_law) rfl
  have ee := hlw.symm.trans (He.glo_ok X Gh (c.fact 11 (f := .glo "law") rfl))
  cases ee
  have b := FunD.bindsA (ps := ["_law_script"]) F fun _ _ _ _ _ _ us hl => match us, hl with | [_], _ => rfl
  exact ⟨fd, fun s v => b s [v] rfl, fun base _ _ TB => fn_ok (tbl := tbl) (fi := 451) F sc_law rfl rfl (fun _ _ _ _ _ _ _ cq => jb_law (fcts X Gh c e) (all_ok X Gh c e D TB _) cq)⟩
end Sb
set_option maxHeartbeats 4000000
namespace Sb
open PySem
/-- all but the places S is as it was -/
structure Fr (S : List Nat) (h h' : PH) : Prop where
  len : h.length ≤ h'.length
  at_ : ∀ n, n ∉ S → n < h.length → h'[n]? = h[n]?
theorem Fr.refl (S : List Nat) (h : PH) : Fr S h h := ⟨Nat.le_refl _, fun _ _ _ => rfl⟩
theorem Fr.trans {S : List Nat} {h1 h2 h3 : PH} (a : Fr S h1 h2) (b : Fr S h2 h3) : Fr S h1 h3 := ⟨Nat.le_trans a.len b.len, fun n hn hl => (b.at_ n hn (Nat.lt_of_lt_of_le hl a.len)).trans (a.at_ n hn hl)⟩
theorem Fr.set {S : List Nat} {h : PH} {n : Nat} {o : PO} (m : n ∈ S) : Fr S h (h.set n o) := ⟨by rw [List.length_set]; exact Nat.le_refl _, fun k hk _ => by
  rw [List.getElem?_set_ne]
  rintro rfl
  exact hk m⟩
theorem Fr.app {S : List Nat} {h t : PH} : Fr S h (h ++ t) := ⟨by simp, fun k _ hl => List.getElem?_append_left hl⟩
theorem Fr.some {S : List Nat} {h h' : PH} (f : Fr S h h') {n : Nat} {o : PO} (hn : n ∉ S) (e : h[n]? = some o) : h'[n]? = some o := (f.at_ n hn (List.getElem?_eq_some_iff.mp e).1).trans e
theorem Fr.mono {S S' : List Nat} {h h' : PH} (f : Fr S h h') (hs : ∀ n ∈ S, n ∈ S') : Fr S' h h' := ⟨f.len, fun n hn hl => f.at_ n (fun z => hn (hs n z)) hl⟩
/-- the state of the draws: s the state's list, g the great numbers left, c the cells; at most B mixes were made -/
structure St (h : PH) (s g c B : Nat) : Prop where
  ex : ∃ (gr : List Int) (cur : Int) (cs : List Int) (cnt : Int), h[s]? = some (.lst [.ref g, .int cur, .ref c, .int cnt]) ∧ h[g]? = some (.lst (gr.map PV.int)) ∧ h[c]? = some (.lst (cs.map PV.int)) ∧
    (∀ x ∈ gr, 0 < x) ∧ (∀ x ∈ cs, 0 ≤ x ∧ x < 2147483587) ∧ cs.length ≤ 1000000 ∧ 0 ≤ cur ∧ 0 ≤ cnt ∧ cnt ≤ (B : Int)
  sg : s ≠ g
  sc : s ≠ c
  gc : g ≠ c
theorem St.frame {h h' : PH} {s g c B : Nat} {S : List Nat} (st : St h s g c B) (f : Fr S h h') (h1 : s ∉ S) (h2 : g ∉ S) (h3 : c ∉ S) : St h' s g c B := by
  obtain ⟨gr, cur, cs, cnt, e1, e2, e3, r⟩ := st.ex
  exact ⟨⟨gr, cur, cs, cnt, f.some h1 e1, f.some h2 e2, f.some h3 e3, r⟩, st.sg, st.sc, st.gc⟩
theorem St.app {h t : PH} {s g c B : Nat} (st : St h s g c B) : St (h ++ t) s g c B := st.frame (S := []) Fr.app (by simp) (by simp) (by simp)
theorem St.up {h : PH} {s g c B B' : Nat} (st : St h s g c B) (hb : B ≤ B') : St h s g c B' := by
  obtain ⟨gr, cur, cs, cnt, e1, e2, e3, r1, r2, r3, r4, r5, r6⟩ := st.ex
  exact ⟨⟨gr, cur, cs, cnt, e1, e2, e3, r1, r2, r3, r4, r5, by omega⟩, st.sg, st.sc, st.gc⟩
theorem set_at {h : PH} {n : Nat} {o o' : PO} (e : h[n]? = some o) : (h.set n o')[n]? = some o' := List.getElem?_set_self (List.getElem?_eq_some_iff.mp e).1
theorem set_ne' {h : PH} {n m : Nat} {o : PO} (e : n ≠ m) : (h.set n o)[m]? = h[m]? := List.getElem?_set_ne e
section
variable {tbl : Nat → Fn}
theorem mix_sat (h5 : tbl 5 = F_law_mix) {k : Nat} {h : PH} {s g c B : Nat} (st : St h s g c B) (hB : B + 1 ≤ 2 ^ 20) {Q : PV → PH → Prop}
    (q : ∀ r h', 0 ≤ r → r < 1000000007 → St h' s g c (B + 1) → Fr [s, g] h h' → h'.length = h.length → Q (.int r) h') : (call tbl (k + 1) 5 [.ref s] h).Sat Q := by
  rw [zai, h5]
  obtain ⟨gr, cur, cs, cnt, e1, e2, e3, r1, r2, r3, r4, r5, r6⟩ := st.ex
  refine zav rfl ?_
  have hn : h.set s (.lst [.ref g, .int cur, .ref c, .int (cnt + 1)]) = h.set s (.lst [.ref g, .int cur, .ref c, .int (cnt + 1)]) := rfl
  generalize eh : h.set s (.lst [.ref g, .int cur, .ref c, .int (cnt + 1)]) = h1 at hn
  have f1 : h1[s]? = some (.lst [.ref g, .int cur, .ref c, .int (cnt + 1)]) := by rw [← eh]; exact set_at e1
  have f2 : h1[g]? = some (.lst (gr.map PV.int)) := by rw [← eh, set_ne' st.sg]; exact e2
  have f3 : h1[c]? = some (.lst (cs.map PV.int)) := by rw [← eh, set_ne' st.sc]; exact e3
  have st1 : St h1 s g c (B + 1) := ⟨⟨gr, cur, cs, cnt + 1, f1, f2, f3, r1, r2, r3, r4, by omega, by omega⟩, st.sg, st.sc, st.gc⟩
  have fr1 : Fr [s, g] h h1 := by rw [← eh]; exact Fr.set (by simp)
  have i3 : idxop (.ref s) (.int 3) h1 = .ok (.int (cnt + 1)) h1 := idx_ref f1 rfl
  have i2 : idxop (.ref s) (.int 2) h1 = .ok (.ref c) h1 := idx_ref f1 rfl
  -- the sum's end, whatever the cell is
  have fin_ : ∀ cell : Int, 0 ≤ cell → cell < 2147483587 → (exSs (call tbl k) [.asg (.nm 3) (.bin .Mod (.bin .Pow (.bin .Add (.bin .Add (.bin .Add (.var 2) (.bin .Mult (.bin .Mult (.lit (.int 769)) (.var 1)) (.var 1))) (.bin .Mult (.lit (.int 52361)) (.var 1))) (.lit (.int 23))) (.lit (.int 5))) (.lit (.int 2147483647))),
      .ret (.bin .Mod (.bin .Add (.bin .Mult (.var 3) (.lit (.int 48271))) (.bin .Mult (.lit (.int 6007)) (.var 1))) (.lit (.int 1000000007)))] [some (.ref s), some (.int (cnt + 1)), some (.int cell), none] h1).Sat (fun _ h => Q .non h) Q := by
    intro cell c0 c1
    have b20 : cnt + 1 ≤ 2 ^ 20 := by omega
    have m1 : mulOk 769 (cnt + 1) = true := mul_ok (a := 10) (b := 21) (by decide) (by omega) (by decide) (by decide) (by decide)
    have s1 : 769 * (cnt + 1) ≤ 769 * 2 ^ 20 := by omega
    have m2 : mulOk (769 * (cnt + 1)) (cnt + 1) = true := mul_ok (a := 31) (b := 21) (by omega) (by omega) (by decide) (by decide) (by decide)
    have m3 : mulOk 52361 (cnt + 1) = true := mul_ok (a := 16) (b := 21) (by decide) (by omega) (by decide) (by decide) (by decide)
    have s2 : 769 * (cnt + 1) * (cnt + 1) ≤ 769 * 2 ^ 20 * 2 ^ 20 := Int.mul_le_mul s1 b20 (by omega) (by omega)
    have s3 : 0 ≤ 769 * (cnt + 1) * (cnt + 1) := Int.mul_nonneg (by omega) (by omega)
    have p1 : powOk (cell + 769 * (cnt + 1) * (cnt + 1) + 52361 * (cnt + 1) + 23) 5 = true := by
      unfold powOk
      rw [decide_eq_true (show (cell + 769 * (cnt + 1) * (cnt + 1) + 52361 * (cnt + 1) + 23).natAbs < 2 ^ 64 by omega)]
      rfl
    generalize hx : (cell + 769 * (cnt + 1) * (cnt + 1) + 52361 * (cnt + 1) + 23) ^ 5 = x
    have md := Int.emod_lt_of_pos x (show (0 : Int) < 2147483647 by decide)
    have mn := Int.emod_nonneg x (show (2147483647 : Int) ≠ 0 by decide)
    have m4 : mulOk (x % 2147483647) 48271 = true := mul_ok (a := 31) (b := 16) (by omega) (by decide) (by decide) (by decide) (by decide)
    have m5 : mulOk 6007 (cnt + 1) = true := mul_ok (a := 13) (b := 21) (by decide) (by omega) (by decide) (by decide) (by decide)
    have e47 : (2147483647 : Int) ≠ 0 := by decide
    have e07 : (1000000007 : Int) ≠ 0 := by decide
    simp [zac, b_mul, b_mod, b_pow, m1, m2, m3, p1, hx, fmod_pos, m4, m5, e47, e07]
    exact q _ _ (Int.emod_nonneg _ (by decide)) (Int.emod_lt_of_pos _ (by decide)) st1 fr1 (by rw [← eh, List.length_set])
  have getl : getL (.ref s) (.int 3) h = .ok (.int cnt) h := by simp [getL, e1]
  have seto : setop (.ref s) (.int 3) (.int (cnt + 1)) h = some h1 := by simp [setop, e1, L2.ixN, eh]
  have tr : truthy h1 (.ref c) = some (!(cs.map PV.int).isEmpty) := tru_ref f3
  simp only [F_law_mix, zan, List.map, List.length, List.replicate, List.cons_append, List.nil_append]
  rw [zac, x_augs]
  simp [getl, seto]
  rw [zac]
  simp [i3]
  rw [zac]
  simp
  rw [zac]
  simp [i2, tr, zac]
  cases cs with
  | nil => simpa [zac] using fin_ 11 (by decide) (by decide)
  | cons y ys =>
    have ln : biF .len [.ref c] h1 = .ok (.int ((ys.length : Int) + 1)) h1 := by simp [biF, biLen, seqOf, f3]
    have hp : (0 : Int) < (ys.length : Int) + 1 := by omega
    have hi0 := Int.emod_nonneg (cnt + 1) (show ((ys.length : Int) + 1) ≠ 0 by omega)
    have hi1 := Int.emod_lt_of_pos (cnt + 1) hp
    obtain ⟨z, hz⟩ : ∃ z, (y :: ys)[((cnt + 1) % ((ys.length : Int) + 1)).toNat]? = some z := ⟨_, List.getElem?_eq_getElem (by rw [List.length_cons]; omega)⟩
    have iz : idxop (.ref c) (.int ((cnt + 1) % ((ys.length : Int) + 1))) h1 = .ok (.int z) h1 := idx_ref f3 (at_pos hi0 (by rw [List.getElem?_map, hz]; rfl))
    obtain ⟨z0, z1⟩ := r2 z (List.mem_of_getElem? hz)
    have md := b_mod (h := h1) (i := cnt + 1) (show ((ys.length : Int) + 1) ≠ 0 by omega)
    rw [fmod_pos hp] at md
    simp [ln, md, iz]
    simpa [zac] using fin_ z z0 z1
theorem M_pow (i : Nat) (h : i ≤ 7) : (1000000007 : Int) ^ i ≤ 1000000007 ^ 7 ∧ 1 ≤ (1000000007 : Int) ^ i := by
  match i, h with
  | 0, _ => decide
  | 1, _ => decide
  | 2, _ => decide
  | 3, _ => decide
  | 4, _ => decide
  | 5, _ => decide
  | 6, _ => decide
  | 7, _ => decide
theorem draw_sat (h5 : tbl 5 = F_law_mix) (h6 : tbl 6 = F_law_draw) {k : Nat} {h : PH} {s g c B : Nat} {m : Int} (st : St h s g c B) (hB : B + 8 ≤ 2 ^ 20) (m0 : 0 < m) (m1 : m ≤ 10 ^ 62) {Q : PV → PH → Prop}
    (q : ∀ r h', 0 ≤ r → r < m → St h' s g c (B + 8) → Fr [s, g] h h' → h'.length = h.length → Q (.int r) h') : (call tbl (k + 2) 6 [.ref s, .int m] h).Sat Q := by
  rw [zai, h6]
  refine zav rfl ?_
  obtain ⟨gr, cur, cs, cnt, e1, e2, e3, r1, r2, r3, r4, r5, r6⟩ := st.ex
  have mz : m ≠ 0 := by omega
  have mb : m.natAbs < 2 ^ 207 := by
    have : (10 : Int) ^ 62 < 2 ^ 207 := by decide
    omega
  have md : divOk m = true := div_ok mz mb (by decide) (by decide)
  -- behind the first statement
  have rest : ∀ (gr : List Int) (cur : Int) (h1 : PH), h1[s]? = some (.lst [.ref g, .int cur, .ref c, .int cnt]) → h1[g]? = some (.lst (gr.map PV.int)) → h1[c]? = some (.lst (cs.map PV.int)) → (∀ x ∈ gr, 0 < x) → 0 ≤ cur → Fr [s, g] h h1 → h1.length = h.length →
      (exSs (call tbl (k + 1)) [.ifs (.cmp .Gt (.idx (.var 0) (.lit (.int 1))) (.lit (.int 0))) [.asg (.nm 2) (.bin .Mod (.idx (.var 0) (.lit (.int 1))) (.var 1)),
  .asg (.sub (.var 0) (.lit (.int 1))) (.bin .FloorDiv (.idx (.var 0) (.lit (.int 1))) (.var 1)),
  .ret (.var 2)] [],
  .asg (.nm 2) (.lit (.int 0)),
  .asg (.nm 3) (.lit (.int 1)),
  .whl (.cmp .Lt (.var 3) (.var 1)) [.asg (.nm 2) (.bin .Add (.bin .Mult (.var 2) (.lit (.int 1000000007))) (.call 5 [(.var 0)] [])),
  .asg (.nm 3) (.bin .Mult (.var 3) (.lit (.int 1000000007)))],
  .ret (.bin .Mod (.var 2) (.var 1))] [some (.ref s), some (.int m), none, none] h1).Sat (fun _ h => Q .non h) Q := by
    intro gr cur h1 e1 e2 e3 r1 r4 fr hl
    have st1 : St h1 s g c B := ⟨⟨gr, cur, cs, cnt, e1, e2, e3, r1, r2, r3, r4, r5, r6⟩, st.sg, st.sc, st.gc⟩
    have i1 : idxop (.ref s) (.int 1) h1 = .ok (.int cur) h1 := idx_ref e1 rfl
    by_cases hc : 0 < cur
    · have bm := b_mod (h := h1) (i := cur) mz
      have bd := b_fdiv (h := h1) (i := cur) md
      rw [fmod_pos m0] at bm
      rw [fdiv_pos m0] at bd
      have so : setop (.ref s) (.int 1) (.int (cur / m)) h1 = some (h1.set s (.lst [.ref g, .int (cur / m), .ref c, .int cnt])) := by simp [setop, e1, L2.ixN]
      simp [zac, i1, hc, bm, bd, so]
      refine q _ _ (Int.emod_nonneg _ mz) (Int.emod_lt_of_pos _ m0) ⟨⟨gr, cur / m, cs, cnt, set_at e1, ?_, ?_, r1, r2, r3, Int.ediv_nonneg r4 (by omega), r5, by omega⟩, st.sg, st.sc, st.gc⟩ (fr.trans (Fr.set (by simp))) (by rw [List.length_set, hl])
      · rw [set_ne' st.sg]; exact e2
      · rw [set_ne' st.sc]; exact e3
    · rw [zac]
      simp [i1, hc]
      rw [zac]
      simp
      rw [zac]
      simp
      rw [zac]
      obtain ⟨I, hI⟩ : ∃ I : Nat → Env → PH → Prop, I = fun n ρ h' => ∃ (i : Nat) (told : Int), n = 7 - i ∧ ρ = [some (.ref s), some (.int m), some (.int told), some (.int (1000000007 ^ i))] ∧ i ≤ 7 ∧ 0 ≤ told ∧ told < 1000000007 ^ i ∧ St h' s g c (B + i) ∧ Fr [s, g] h h' ∧ h'.length = h.length := ⟨_, rfl⟩
      refine x_whl I 7 (by rw [hI]; exact ⟨0, 0, rfl, rfl, by decide, by decide, by decide, st1, fr, hl⟩) ?_
      intro n ρ h2 hi
      rw [hI] at hi
      obtain ⟨i, told, rfl, rfl, i7, t0, t1, st2, fr2, hl2⟩ := hi
      obtain ⟨p1, p2⟩ := M_pow i i7
      by_cases hlt : (1000000007 : Int) ^ i < m
      · have i6 : i < 7 := by
          rcases Nat.lt_or_ge i 7 with z | z
          · exact z
          · have : i = 7 := by omega
            subst this
            have : (10 : Int) ^ 62 < 1000000007 ^ 7 := by decide
            omega
        have p7 : (1000000007 : Int) ^ 7 < 2 ^ 210 := by decide
        have k1 : mulOk told 1000000007 = true := mul_ok (a := 210) (b := 30) (by omega) (by decide) (by decide) (by decide) (by decide)
        have k2 : mulOk (1000000007 ^ i) 1000000007 = true := mul_ok (a := 210) (b := 30) (by omega) (by decide) (by decide) (by decide) (by decide)
        simp [hlt, b_mul, k1, zac]
        refine mix_sat h5 st2 (by omega) fun r h3 q1 q2 st3 fr3 hl3 => ?_
        simp [b_mul, k2]
        have ps : (1000000007 : Int) ^ (i + 1) = 1000000007 ^ i * 1000000007 := Int.pow_succ _ _
        refine ⟨7 - (i + 1), by omega, ?_⟩
        rw [hI]
        refine ⟨i + 1, told * 1000000007 + r, rfl, by rw [ps], by omega, by omega, ?_, st3, fr2.trans fr3, hl3.trans hl2⟩
        rw [ps]
        omega
      · simp [hlt]
        have bm := b_mod (h := h2) (i := told) mz
        rw [fmod_pos m0] at bm
        simp [bm, zac]
        exact q _ _ (Int.emod_nonneg _ mz) (Int.emod_lt_of_pos _ m0) (st2.up (by omega)) fr2 hl2
  have i0 : idxop (.ref s) (.int 0) h = .ok (.ref g) h := idx_ref e1 rfl
  have i1 : idxop (.ref s) (.int 1) h = .ok (.int cur) h := idx_ref e1 rfl
  have tr : truthy h (.ref g) = some (!(gr.map PV.int).isEmpty) := tru_ref e2
  simp only [F_law_draw, zan, List.map, List.length, List.replicate, List.cons_append, List.nil_append]
  rw [zac, x_if]
  simp [i1, i0, tr]
  by_cases hc : cur = 0
  · subst hc
    cases gr with
    | nil =>
      simp
      exact rest [] 0 h e1 e2 e3 (by simp) (by decide) (Fr.refl _ _) rfl
    | cons x xs =>
      have ty : tyOf h (.ref g) = some .list := by simp [tyOf, e2]
      have so : setop (.ref s) (.int 1) (.int x) (h.set g (.lst (xs.map PV.int))) = some ((h.set g (.lst (xs.map PV.int))).set s (.lst [.ref g, .int x, .ref c, .int cnt])) := by
        have : (h.set g (.lst (xs.map PV.int)))[s]? = some (.lst [.ref g, .int 0, .ref c, .int cnt]) := by rw [set_ne' (Ne.symm st.sg)]; exact e1
        simp [setop, this, L2.ixN]
      have pp : mtF .popAt (.ref g) [.int 0] h = .ok (.int x) (h.set g (.lst (xs.map PV.int))) := by simp [mtF, mtPopAt, e2]
      simp [i0, ty, MT.ty, pp, so]
      have q1 : ((h.set g (.lst (xs.map PV.int))).set s (.lst [.ref g, .int x, .ref c, .int cnt]))[s]? = some (.lst [.ref g, .int x, .ref c, .int cnt]) := set_at (o := .lst [.ref g, .int 0, .ref c, .int cnt]) (by rw [set_ne' (Ne.symm st.sg)]; exact e1)
      have q2 : ((h.set g (.lst (xs.map PV.int))).set s (.lst [.ref g, .int x, .ref c, .int cnt]))[g]? = some (.lst (xs.map PV.int)) := by rw [set_ne' st.sg]; exact set_at e2
      have q3 : ((h.set g (.lst (xs.map PV.int))).set s (.lst [.ref g, .int x, .ref c, .int cnt]))[c]? = some (.lst (cs.map PV.int)) := by rw [set_ne' st.sc, set_ne' st.gc]; exact e3
      exact rest xs x _ q1 q2 q3 (fun y hy => r1 y (List.mem_cons_of_mem _ hy)) (Int.le_of_lt (r1 x List.mem_cons_self)) ((Fr.set (by simp)).trans (Fr.set (by simp))) (by simp)
  · simp [hc]
    exact rest gr cur h e1 e2 e3 r1 r4 (Fr.refl _ _) rfl
end
end Sb
namespace Sb
open PySem
theorem stays_nil (h : PH) : zbs [] h := fun p hp => by cases hp
section
variable {tbl : Nat → Fn}
theorem start_sat (h4 : tbl 4 = F_law_start) {k : Nat} {h : PH} {ns : List Int} (hn : ns.length ≤ 63) {Q : PV → PH → Prop}
    (q : ∀ h', St h' (h.length + 2) h.length (h.length + 1) 0 → Fr [] h h' → h'.length = h.length + 3 → Q (.ref (h.length + 2)) h') : (call tbl (k + 1) 4 [.cl (ns.map PV.int)] h).Sat Q := by
  rw [zai, h4]
  refine zav rfl ?_
  simp only [F_law_start, zan, List.map, List.length, List.replicate, List.cons_append, List.nil_append]
  rw [zac, x_set]
  obtain ⟨I, hI⟩ : ∃ I : Nat → List PV → PH → Prop, I = fun i acc h' => h' = h ∧ ∃ gr : List Int, acc = gr.map PV.int ∧ (∀ x ∈ gr, 0 < x) ∧ gr.length ≤ i := ⟨_, rfl⟩
  refine v_compE (l := [.cl (ns.map PV.int)]) (h1 := h) (by simp) rfl I (by rw [hI]; exact ⟨rfl, [], rfl, by simp, Nat.le_refl _⟩) (fun i x acc h1 hx hi => ?_) (fun acc h1 hi => ?_)
  · rw [List.getElem?_map] at hx
    obtain ⟨y, hy, ex⟩ := Option.map_eq_some_iff.mp hx
    rw [hI] at hi
    obtain ⟨rfl, gr, rfl, g1, g2⟩ := hi
    subst ex
    have hi : i < 63 := by
      have := (List.getElem?_eq_some_iff.mp hy).1
      omega
    refine ⟨stays_nil _, [some (.cl (ns.map PV.int)), none, some (.int y)], rfl, ?_⟩
    have p1 : powOk 10 18 = true := by decide
    simp [b_pow, p1]
    by_cases hc : (1000000000000000000 : Int) ≤ y
    · refine .inr ⟨hc, zbp (by omega), ?_⟩
      rw [hI]
      refine ⟨rfl, gr ++ [y], by simp, fun z hz => ?_, by rw [List.length_append]; simp; omega⟩
      rcases List.mem_append.mp hz with z1 | z1
      · exact g1 z z1
      · rw [List.mem_singleton.mp z1]
        omega
    · refine .inl ⟨by omega, ?_⟩
      rw [hI]
      exact ⟨rfl, gr, rfl, g1, by omega⟩
  · rw [hI] at hi
    obtain ⟨rfl, gr, rfl, g1, g2⟩ := hi
    rw [List.length_map] at g2
    refine ⟨stays_nil _, zbp (by rw [List.length_map]; omega), ?_⟩
    simp
    obtain ⟨J, hJ⟩ : ∃ J : Nat → List PV → PH → Prop, J = fun i acc h' => h' = h1 ++ [.lst (gr.map PV.int)] ∧ ∃ cs : List Int, acc = cs.map PV.int ∧ (∀ x ∈ cs, 0 ≤ x ∧ x < 2147483587) ∧ cs.length ≤ i := ⟨_, rfl⟩
    refine v_compE (l := [.cl (ns.map PV.int)]) (h1 := h1 ++ [.lst (gr.map PV.int)]) (by simp) rfl J (by rw [hJ]; exact ⟨rfl, [], rfl, by simp, Nat.le_refl _⟩) (fun i x acc h2 hx hi => ?_) (fun acc h2 hi => ?_)
    · rw [List.getElem?_map] at hx
      obtain ⟨y, hy, ex⟩ := Option.map_eq_some_iff.mp hx
      rw [hJ] at hi
      obtain ⟨rfl, cs, rfl, c1, c2⟩ := hi
      subst ex
      have hi : i < 63 := by
        have := (List.getElem?_eq_some_iff.mp hy).1
        omega
      refine ⟨stays_nil _, [some (.cl (ns.map PV.int)), some (.ref h1.length), some (.int y)], rfl, ?_⟩
      have bm := b_mod (h := h1 ++ [.lst (gr.map PV.int)]) (i := y) (show (2147483587 : Int) ≠ 0 by decide)
      rw [fmod_pos (by decide)] at bm
      simp [bm]
      refine ⟨zbp (by omega), ?_⟩
      rw [hJ]
      refine ⟨rfl, cs ++ [y % 2147483587], by simp, fun z hz => ?_, by rw [List.length_append]; simp; omega⟩
      rcases List.mem_append.mp hz with z1 | z1
      · exact c1 z z1
      · rw [List.mem_singleton.mp z1]
        exact ⟨Int.emod_nonneg _ (by decide), Int.emod_lt_of_pos _ (by decide)⟩
    · rw [hJ] at hi
      obtain ⟨rfl, cs, rfl, c1, c2⟩ := hi
      rw [List.length_map] at c2
      refine ⟨stays_nil _, zbp (by rw [List.length_map]; omega), ?_⟩
      rw [zaf _ (by simp)]
      simp
      have e : (h1 ++ [PO.lst (gr.map PV.int), PO.lst (cs.map PV.int), PO.lst [.ref h1.length, .int 0, .ref (h1.length + 1), .int 0]]).length = h1.length + 3 := by simp
      refine q _ ⟨⟨gr, 0, cs, 0, by simp, by simp, by simp, g1, c1, by omega, by decide, by decide, by decide⟩, by omega, by omega, by omega⟩ Fr.app e
end
end Sb
namespace Sb
open PySem
/-- a comprehension with no condition, as a map -/
theorem v_mapE {C : Calls} {tg : List Nat} {one : TgK} {k : ITK} {its : List E} {own : List Nat} {a : E} {ρ : Env} {h h1 : PH} {Q : PV → PH → Prop} {l items : List PV} {kp : Keep} (e1 : evGs C its ρ h = .ok l h1) (e2 : walkF k l h1 = some (items, kp)) (f : PV → PV) (P : PH → Prop) (h0 : P h1) (hk : ∀ h, P h → zbs kp h) (hl : items.length ≤ 1000000)
    (hs : ∀ x ∈ items, ∀ h, P h → ∃ ρ1, setTg (wipeP ρ own) tg one x = some ρ1 ∧ (evG C a false ρ1 h).Sat fun v h2 => v = f x ∧ P h2)
    (hd : ∀ h, P h → Q (.ref h.length) (h ++ [.lst (items.map f)])) : (evG C (.comp a tg one k its none own) false ρ h).Sat Q := by
  refine v_compE e1 e2 (fun i acc h => P h ∧ acc = (items.take i).map f) ⟨h0, rfl⟩ (fun i x acc h hx hi => ?_) fun acc h hi => ?_
  · obtain ⟨p, rfl⟩ := hi
    have hm := List.mem_of_getElem? hx
    have hlt := (List.getElem?_eq_some_iff.mp hx).1
    obtain ⟨ρ1, q1, q2⟩ := hs x hm h p
    refine ⟨hk h p, ρ1, q1, ?_⟩
    rw [gc_none, sat_ok, if_pos rfl]
    refine q2.imp fun v h2 ⟨r1, r2⟩ => ⟨zbp (by simp; omega), r2, ?_⟩
    rw [r1, List.take_add_one, hx]
    simp
  · obtain ⟨p, rfl⟩ := hi
    refine ⟨hk h p, zbp (by simp; omega), ?_⟩
    rw [List.take_length]
    exact hd h p
theorem bools_map : ∀ bs : List Bool, boolsOf (bs.map PV.bl) = some bs
  | [] => rfl
  | b :: r => by
    show (boolsOf (r.map PV.bl)).map (b :: ·) = _
    rw [bools_map r]
    rfl
theorem all_ref {h : PH} {n : Nat} {bs : List Bool} (e : h[n]? = some (.lst (bs.map PV.bl))) : biF .all [.ref n] h = .ok (.bl (bs.all id)) h := by
  show (match (listOf h (.ref n)).bind boolsOf with | some bs => R.ok (PV.bl (bs.all id)) h | none => .no) = _
  have : (listOf h (.ref n)).bind boolsOf = some bs := by
    simp only [listOf, e, Option.bind_some, bools_map]
  rw [this]
theorem ty_ref {h : PH} {m : Nat} {l : List PV} (e : h[m]? = some (.lst l)) : tyOf h (.ref m) = some .list := by simp only [tyOf, e]
end Sb
namespace Sb
open PySem
/-- both numbers below 2 ^ n -/
structure Qs (n : Nat) (q : Rat) : Prop where
  num : q.num.natAbs < 2 ^ n
  den : q.den < 2 ^ n
theorem Qs.mono {n m : Nat} {q : Rat} (h : Qs n q) (l : n ≤ m) : Qs m q := ⟨Nat.lt_of_lt_of_le h.num (Nat.pow_le_pow_right (by decide) l), Nat.lt_of_lt_of_le h.den (Nat.pow_le_pow_right (by decide) l)⟩
theorem divInt_le {t b : Int} (hb : b ≠ 0) : (Rat.divInt t b).num.natAbs ≤ t.natAbs ∧ (Rat.divInt t b).den ≤ b.natAbs := by
  rw [Rat.num_divInt, Rat.den_divInt, if_neg hb]
  refine ⟨?_, Nat.div_le_self _ _⟩
  rcases Int.lt_or_lt_of_ne hb with z | z
  · rw [Int.sign_eq_neg_one_of_neg z]
    refine Nat.le_trans (Int.natAbs_ediv_le_natAbs _ _) ?_
    omega
  · rw [Int.sign_eq_one_of_pos z, Int.one_mul]
    exact Int.natAbs_ediv_le_natAbs _ _
theorem Qs.divInt {n : Nat} {t b : Int} (hb : b ≠ 0) (h1 : t.natAbs < 2 ^ n) (h2 : b.natAbs < 2 ^ n) : Qs n (Rat.divInt t b) := ⟨Nat.lt_of_le_of_lt (divInt_le hb).1 h1, Nat.lt_of_le_of_lt (divInt_le hb).2 h2⟩
theorem mul_lt_pow {a b n m : Nat} (h1 : a < 2 ^ n) (h2 : b < 2 ^ m) : a * b < 2 ^ (n + m) := by
  rw [Nat.pow_add]
  exact Nat.mul_lt_mul'' h1 h2
theorem den_ne (q : Rat) : ((q.den : Nat) : Int) ≠ 0 := by
  have := q.den_nz
  omega
theorem dd_ne (a b : Rat) : ((a.den : Nat) : Int) * ((b.den : Nat) : Int) ≠ 0 := Int.mul_ne_zero (den_ne a) (den_ne b)
theorem add_divInt (a b : Rat) : a + b = Rat.divInt (a.num * b.den + b.num * a.den) (a.den * b.den) := by
  rw [Rat.add_def', ← Rat.divInt_ofNat, Int.natCast_mul]
theorem sub_divInt (a b : Rat) : a - b = Rat.divInt (a.num * b.den - b.num * a.den) (a.den * b.den) := by
  rw [Rat.sub_def', ← Rat.divInt_ofNat, Int.natCast_mul]
theorem mul_divInt (a b : Rat) : a * b = Rat.divInt (a.num * b.num) (a.den * b.den) := by
  rw [Rat.mul_def', ← Rat.divInt_ofNat, Int.natCast_mul]
theorem div_divInt (a b : Rat) (hb : b.num ≠ 0) : a / b = Rat.divInt (a.num * b.den) (a.den * b.num) := by
  rw [Rat.div_def, Rat.inv_def]
  conv => lhs; rw [← Rat.num_divInt_den a]
  rw [Rat.divInt_mul_divInt]
section
variable {n m : Nat} {a b : Rat}
theorem Qs.nd (h : Qs n a) (g : Qs m b) : (a.num * (b.den : Int)).natAbs < 2 ^ (n + m) := by
  rw [Int.natAbs_mul]
  exact mul_lt_pow h.num (by simpa using g.den)
theorem Qs.nn (h : Qs n a) (g : Qs m b) : (a.num * b.num).natAbs < 2 ^ (n + m) := by
  rw [Int.natAbs_mul]
  exact mul_lt_pow h.num g.num
theorem Qs.dn (h : Qs n a) (g : Qs m b) : ((a.den : Int) * b.num).natAbs < 2 ^ (n + m) := by
  rw [Int.natAbs_mul]
  exact mul_lt_pow (by simpa using h.den) g.num
theorem Qs.dd (h : Qs n a) (g : Qs m b) : ((a.den : Int) * (b.den : Int)).natAbs < 2 ^ (n + m) := by
  rw [Int.natAbs_mul]
  exact mul_lt_pow (by simpa using h.den) (by simpa using g.den)
theorem pow_s (k : Nat) : 2 ^ (k + 1) = 2 ^ k + 2 ^ k := by rw [Nat.pow_succ]; omega
theorem Qs.add (h : Qs n a) (g : Qs m b) : Qs (n + m + 1) (a + b) := by
  rw [add_divInt]
  have h1 := h.nd g
  have h2 := g.nd h
  rw [Nat.add_comm m n] at h2
  have h3 := h.dd g
  have h4 := pow_s (n + m)
  exact .divInt (dd_ne a b) (by omega) (by omega)
theorem Qs.sub (h : Qs n a) (g : Qs m b) : Qs (n + m + 1) (a - b) := by
  rw [sub_divInt]
  have h1 := h.nd g
  have h2 := g.nd h
  rw [Nat.add_comm m n] at h2
  have h3 := h.dd g
  have h4 := pow_s (n + m)
  exact .divInt (dd_ne a b) (by omega) (by omega)
theorem Qs.mul (h : Qs n a) (g : Qs m b) : Qs (n + m) (a * b) := by
  rw [mul_divInt]
  exact .divInt (dd_ne a b) (h.nn g) (h.dd g)
theorem Qs.div (h : Qs n a) (g : Qs m b) (hb : b.num ≠ 0) : Qs (n + m) (a / b) := by
  rw [div_divInt a b hb]
  exact .divInt (Int.mul_ne_zero (den_ne a) hb) (h.nd g) (h.dn g)
theorem Qs.neg (h : Qs n a) : Qs n (-a) := ⟨by rw [Rat.neg_num, Int.natAbs_neg]; exact h.num, h.den⟩
theorem Qs.inv (h : Qs n a) (hb : a.num ≠ 0) : Qs n a⁻¹ := by
  rw [Rat.inv_def]
  exact .divInt hb (by simpa using h.den) h.num
theorem Qs.pos (h : Qs n a) : 0 < n := by
  cases n with
  | zero =>
    have := h.den
    have := a.den_nz
    omega
  | succ n => exact Nat.succ_pos _
end
theorem num_ne {q : Rat} (h : q ≠ 0) : q.num ≠ 0 := fun z => h (Rat.num_eq_zero.mp z)
/-- the parts of a fraction, no greater than these -/
structure Bd (N M : Nat) (q : Rat) : Prop where
  num : q.num.natAbs ≤ N
  den : q.den ≤ M
theorem Bd.divInt {N M : Nat} {t b : Int} (hb : b ≠ 0) (h1 : t.natAbs ≤ N) (h2 : b.natAbs ≤ M) : Bd N M (Rat.divInt t b) := ⟨Nat.le_trans (divInt_le hb).1 h1, Nat.le_trans (divInt_le hb).2 h2⟩
theorem Bd.mul {N M N' M' : Nat} {a b : Rat} (h : Bd N M a) (g : Bd N' M' b) : Bd (N * N') (M * M') (a * b) := by
  rw [mul_divInt]
  refine .divInt (dd_ne a b) ?_ ?_
  · rw [Int.natAbs_mul]
    exact Nat.mul_le_mul h.num g.num
  · rw [Int.natAbs_mul]
    exact Nat.mul_le_mul h.den g.den
theorem Bd.nd {N M N' M' : Nat} {a b : Rat} (h : Bd N M a) (g : Bd N' M' b) : (a.num * (b.den : Int)).natAbs ≤ N * M' := by
  rw [Int.natAbs_mul]
  exact Nat.mul_le_mul h.num g.den
theorem Bd.add {N M N' M' : Nat} {a b : Rat} (h : Bd N M a) (g : Bd N' M' b) : Bd (N * M' + N' * M) (M * M') (a + b) := by
  rw [add_divInt]
  refine .divInt (dd_ne a b) (Nat.le_trans (Int.natAbs_add_le ..) (Nat.add_le_add (h.nd g) (g.nd h))) ?_
  rw [Int.natAbs_mul]
  exact Nat.mul_le_mul h.den g.den
theorem Bd.sub {N M N' M' : Nat} {a b : Rat} (h : Bd N M a) (g : Bd N' M' b) : Bd (N * M' + N' * M) (M * M') (a - b) := by
  rw [sub_divInt]
  refine .divInt (dd_ne a b) (Nat.le_trans (Int.natAbs_sub_le ..) (Nat.add_le_add (h.nd g) (g.nd h))) ?_
  rw [Int.natAbs_mul]
  exact Nat.mul_le_mul h.den g.den
theorem Bd.div {N M N' M' : Nat} {a b : Rat} (h : Bd N M a) (g : Bd N' M' b) (hb : b.num ≠ 0) : Bd (N * M') (M * N') (a / b) := by
  rw [div_divInt a b hb]
  refine .divInt (Int.mul_ne_zero (den_ne a) hb) (h.nd g) ?_
  rw [Int.natAbs_mul]
  exact Nat.mul_le_mul h.den g.num
theorem Bd.neg {N M : Nat} {a : Rat} (h : Bd N M a) : Bd N M (-a) := ⟨by rw [Rat.neg_num, Int.natAbs_neg]; exact h.num, h.den⟩
/-- at most twelve figures -/
structure NearQ (q : Rat) : Prop where
  num : q.num.natAbs < 1000000000000
  den : q.den < 1000000000000
end Sb
namespace Sb
open PySem
/-- two things that the laws call the same, down to d levels -/
def sameP (h : PH) : Nat → PV → PV → Prop
  | _, .non, .non => True
  | _, .bl a, .bl b => a = b
  | _, .int a, .int b => a = b
  | _, .str a, .str b => a = b
  | d + 1, .tup l, .tup k => l.length = k.length ∧ l.length ≤ 1000000 ∧ ∀ (i : Nat) x y, l[i]? = some x → k[i]? = some y → sameP h d x y
  | d + 1, .ref m, .ref n => ∃ l k, h[m]? = some (.lst l) ∧ h[n]? = some (.lst k) ∧ l.length = k.length ∧ l.length ≤ 1000000 ∧ ∀ (i : Nat) x y, l[i]? = some x → k[i]? = some y → sameP h d x y
  | _, _, _ => False
theorem sameP.app {h t : PH} : ∀ {d : Nat} {v w : PV}, sameP h d v w → sameP (h ++ t) d v w
  | d, .non, w, s => by cases d <;> cases w <;> first | trivial | exact s.elim
  | d, .bl _, w, s => by cases d <;> cases w <;> first | exact s | exact s.elim
  | d, .int _, w, s => by cases d <;> cases w <;> first | exact s | exact s.elim
  | d, .str _, w, s => by cases d <;> cases w <;> first | exact s | exact s.elim
  | 0, .tup _, w, s => by cases w <;> exact s.elim
  | 0, .ref _, w, s => by cases w <;> exact s.elim
  | d, .cl _, w, s => by cases d <;> cases w <;> exact s.elim
  | d, .ty _, w, s => by cases d <;> cases w <;> exact s.elim
  | d, .cls _, w, s => by cases d <;> cases w <;> exact s.elim
  | d, .ste _, w, s => by cases d <;> cases w <;> exact s.elim
  | d, .exv _ _ _, w, s => by cases d <;> cases w <;> exact s.elim
  | d, .xc _ _ _, w, s => by cases d <;> cases w <;> exact s.elim
  | d + 1, .tup l, w, s => by
    cases w with
    | tup k => exact ⟨s.1, s.2.1, fun i x y h1 h2 => (s.2.2 i x y h1 h2).app⟩
    | _ => exact s.elim
  | d + 1, .ref m, w, s => by
    cases w with
    | ref n =>
      obtain ⟨l, k, e1, e2, e3, e4, e5⟩ := s
      refine ⟨l, k, ?_, ?_, e3, e4, fun i x y h1 h2 => (e5 i x y h1 h2).app⟩
      · rw [List.getElem?_append_left (List.getElem?_eq_some_iff.mp e1).1]; exact e1
      · rw [List.getElem?_append_left (List.getElem?_eq_some_iff.mp e2).1]; exact e2
    | _ => exact s.elim
theorem zip_get : ∀ {l k : List PV} {x : PV} {i : Nat}, (zipP l k)[i]? = some x → ∃ a b, x = .tup [a, b] ∧ l[i]? = some a ∧ k[i]? = some b
  | [], k, x, i, e => by
    rw [show zipP [] k = [] by cases k <;> rfl] at e
    simp at e
  | _ :: _, [], x, i, e => by
    rw [show zipP (_ :: _) [] = [] from rfl] at e
    simp at e
  | a :: l, b :: k, x, 0, e => by
    rw [show zipP (a :: l) (b :: k) = .tup [a, b] :: zipP l k from rfl] at e
    simp at e
    exact ⟨a, b, e.symm, rfl, rfl⟩
  | a :: l, b :: k, x, i + 1, e => by
    rw [show zipP (a :: l) (b :: k) = .tup [a, b] :: zipP l k from rfl] at e
    simp at e
    obtain ⟨a', b', e1, e2, e3⟩ := zip_get e
    exact ⟨a', b', e1, by simpa using e2, by simpa using e3⟩
theorem zip_len : ∀ {l k : List PV}, (zipP l k).length ≤ l.length
  | [], k => by cases k <;> exact Nat.le_refl _
  | _ :: _, [] => Nat.zero_le _
  | a :: l, b :: k => Nat.succ_le_succ zip_len
theorem mem_get {α : Type} {l : List α} {x : α} (h : x ∈ l) : ∃ i : Nat, l[i]? = some x := by
  obtain ⟨i, hi, e⟩ := List.mem_iff_getElem.mp h
  exact ⟨i, List.getElem?_eq_some_iff.mpr ⟨hi, e⟩⟩
section
variable {tbl : Nat → Fn}
theorem same_sat (h7 : tbl 7 = F_law_same) : ∀ {d k : Nat} {h : PH} {v w : PV} {Q : PV → PH → Prop} (s : sameP h d v w) (q : ∀ t, Q (.bl true) (h ++ t)), (call tbl (k + d + 1) 7 [v, w] h).Sat Q := by
  intro d
  induction d with
  | zero =>
    intro k h v w Q s q
    have q0 : Q (.bl true) h := by simpa using q []
    rw [zai, h7]
    refine zav rfl ?_
    simp only [F_law_same, zan, List.map, List.length, List.replicate, List.cons_append, List.nil_append]
    cases v <;> cases w <;> first | exact s.elim | skip
    all_goals simp [sameP] at s
    all_goals try subst s
    all_goals simp [zac, biF, zb4, tyOf, tysOf, isTy, isNonP, q0]
  | succ d ih =>
    intro k h v w Q s q
    have q0 : Q (.bl true) h := by simpa using q []
    rw [zai, h7]
    refine zav rfl ?_
    simp only [F_law_same, zan, List.map, List.length, List.replicate, List.cons_append, List.nil_append]
    have go : ∀ (vw : List PV) (kp : Keep) (l m : List PV) (ρ : Env), evGs (call tbl (k + (d + 1))) [(.var 0), (.var 1)] ρ h = .ok vw h → walkF .zip vw h = some (zipP l m, kp) → zbs kp h → l.length ≤ 1000000 → (∀ (i : Nat) x y, l[i]? = some x → m[i]? = some y → sameP h d x y) → (∀ a b, ∃ ρ1, setTg (wipeP ρ [2, 3]) [2, 3] .tup (.tup [a, b]) = some ρ1 ∧ ρ1.get 2 = some a ∧ ρ1.get 3 = some b) →
        (evG (call tbl (k + (d + 1))) (.bi .all [(.comp (.call 7 [(.var 2), (.var 3)] []) [2, 3] .tup .zip [(.var 0), (.var 1)] none [2, 3])]) false ρ h).Sat Q := by
      intro vw kp l m ρ e1 e2 hk hl hs hρ
      simp
      refine v_mapE e1 e2 (fun _ => .bl true) (fun h' => ∃ t, h' = h ++ t) ⟨[], by simp⟩ (fun h' e y hy => ?_) (Nat.le_trans zip_len hl) (fun x hx h' e => ?_) fun h' e => ?_
      · obtain ⟨t, rfl⟩ := e
        have := hk y hy
        rw [List.getElem?_append_left (List.getElem?_eq_some_iff.mp this).1]
        exact this
      · obtain ⟨t, rfl⟩ := e
        obtain ⟨i, hi⟩ := mem_get hx
        obtain ⟨a, b, rfl, ea, eb⟩ := zip_get hi
        obtain ⟨ρ1, p1, p2, p3⟩ := hρ a b
        refine ⟨ρ1, p1, ?_⟩
        simp [p2, p3]
        have := ih (k := k) (h := h ++ t) (Q := fun v h2 => v = .bl true ∧ ∃ t, h2 = h ++ t) (hs i a b ea eb).app fun t2 => ⟨rfl, t ++ t2, by simp⟩
        exact this
      · obtain ⟨t, e0⟩ := e
        have e : (h' ++ [PO.lst ((zipP l m).map fun _ => PV.bl true)])[h'.length]? = some (.lst (((zipP l m).map fun _ => true).map PV.bl)) := by simp
        rw [all_ref e]
        rw [e0]
        have := q (t ++ [PO.lst ((zipP l m).map fun _ => PV.bl true)])
        have at_ : ((zipP l m).all fun _ => true) = true := by simp
        simpa [at_] using this
    cases v with
    | tup l =>
      cases w with
      | tup m =>
        obtain ⟨s1, s2, s3⟩ := s
        rw [zac]
        simp [biF, zb4, tyOf, tysOf, isTy]
        rw [zac]
        simp [biF, zb4, tyOf, tysOf, isTy]
        rw [zac]
        simp [biF, zb4, tyOf, tysOf, isTy, biLen, seqOf, s1]
        have := go [.tup l, .tup m] [] l m [some (.tup l), some (.tup m), none, none] (by simp) rfl (stays_nil _) s2 s3 fun a b => ⟨_, rfl, rfl, rfl⟩
        simpa [biF] using this
      | _ => exact s.elim
    | ref m =>
      cases w with
      | ref n =>
        obtain ⟨l, m', e1, e2, s1, s2, s3⟩ := s
        rw [zac]
        simp [biF, zb4, tyOf, tysOf, isTy, e1, e2]
        rw [zac]
        simp [biF, zb4, tyOf, tysOf, isTy, e1, e2]
        rw [zac]
        simp [biF, zb4, tyOf, tysOf, isTy, biLen, seqOf, s1, e1, e2]
        have := go [.ref m, .ref n] [(m, l), (n, m')] l m' [some (.ref m), some (.ref n), none, none] (by simp) (by show walkZip [.ref m, .ref n] h = _; simp only [walkZip, e1, e2]) (fun y hy => by
          simp only [List.mem_cons, List.not_mem_nil, or_false] at hy
          rcases hy with rfl | rfl
          · exact e1
          · exact e2) s2 s3 fun a b => ⟨_, rfl, rfl, rfl⟩
        simpa [biF] using this
      | _ => exact s.elim
    | cl l => cases w <;> exact s.elim
    | ty l => cases w <;> exact s.elim
    | ste l => cases w <;> exact s.elim
    | exv _ _ _ => cases w <;> exact s.elim
    | cls l => cases w <;> exact s.elim
    | xc l a b => cases w <;> exact s.elim
    | _ =>
      cases w <;> first | exact s.elim | skip
      all_goals simp [sameP] at s
      all_goals try subst s
      all_goals simp [zac, biF, zb4, tyOf, tysOf, isTy, isNonP, q0]
end
section
variable {tbl : Nat → Fn} {k n m o : Nat} {h : PH} {a b c d x : Rat}
theorem q1 : Qs 1 1 := ⟨by decide, by decide⟩
theorem q0 : Qs 1 0 := ⟨by decide, by decide⟩
end
end Sb
namespace Sb
open PySem
theorem St.lt {h : PH} {s g c B : Nat} (st : St h s g c B) : s < h.length ∧ g < h.length ∧ c < h.length := by
  obtain ⟨gr, cur, cs, cnt, e1, e2, e3, r⟩ := st.ex
  exact ⟨(List.getElem?_eq_some_iff.mp e1).1, (List.getElem?_eq_some_iff.mp e2).1, (List.getElem?_eq_some_iff.mp e3).1⟩
theorem Fr.setNew {S : List Nat} {h h1 : PH} {m : Nat} {o : PO} (f : Fr S h h1) (hm : h.length ≤ m) : Fr S h (h1.set m o) := ⟨by rw [List.length_set]; exact f.len, fun n hn hl => by
  rw [List.getElem?_set_ne (by omega)]
  exact f.at_ n hn hl⟩
theorem St.setNew {h : PH} {s g c B m : Nat} {o : PO} (st : St h s g c B) (h1 : m ≠ s) (h2 : m ≠ g) (h3 : m ≠ c) : St (h.set m o) s g c B :=
  st.frame (S := [m]) (Fr.set (by simp)) (by simp; omega) (by simp; omega) (by simp; omega)
section
variable {C : Calls} {t : Bool} {ρ : Env} {h : PH} {a b c : E}
@[simp] theorem g_srt : evG C (.srt a) t ρ h = fin t ((evG C a false ρ h).bind fun x h1 => srtop x h1) := by rfl
@[simp] theorem g_dct (es : List E) : evG C (.dct es) t ρ h = fin t ((evGs C es ρ h).bind fun l h1 => match pairUp l with | some l => allocD (mergeP [] l) h1 | none => .no) := by rfl
end
abbrev tlS (x : Str) : List Nat := x.cps.toList
/-- a small text of small letters -/
structure Nm (x : Str) : Prop where
  len : (tlS x).length ≤ 8
  pos : 0 < (tlS x).length
  low : ∀ c ∈ tlS x, 97 ≤ c ∧ c ≤ 122
theorem Nm.ok {x : Str} (n : Nm x) : strOkP x = true := by
  unfold strOkP
  rw [Array.all_eq_true_iff_forall_mem]
  intro c hc
  have := n.low c (by simpa [tlS] using hc)
  exact decide_eq_true (by omega)
def T25 : List Nat := tlS ("abcdefghijklmnopqrstuvxyz" : Str)
theorem t25 : T25 = [97, 98, 99, 100, 101, 102, 103, 104, 105, 106, 107, 108, 109, 110, 111, 112, 113, 114, 115, 116, 117, 118, 120, 121, 122] := by decide +kernel
theorem t25_nd : T25.Nodup := by rw [t25]; decide
end Sb
namespace Sb
open PySem
/-- the names made so far: unlike, small, and where a name holds a w it is of a number below i -/
structure Nms (ns : List Str) : Prop where
  nd : ns.Nodup
  nm : ∀ x ∈ ns, Nm x
  w3 : ∀ x ∈ ns, 119 ∉ tlS x ∨ (tlS x).length = 3
structure NmsI (i : Nat) (ns : List Str) : Prop extends Nms ns where
  len : ns.length = i
  w : ∀ x ∈ ns, 119 ∉ tlS x ∨ ∃ j a b, j < i ∧ tlS x = [119, a, b] ∧ T25[j / 25]? = some a ∧ T25[j % 25]? = some b
theorem NmsI.add {i : Nat} {ns : List Str} {x : Str} (n : NmsI i ns) (hx : x ∉ ns) (h1 : Nm x) (h2 : 119 ∉ tlS x ∨ ∃ j a b, j < i + 1 ∧ tlS x = [119, a, b] ∧ T25[j / 25]? = some a ∧ T25[j % 25]? = some b) : NmsI (i + 1) (ns ++ [x]) := by
  refine ⟨⟨?_, fun y hy => ?_, fun y hy => ?_⟩, by simp [n.len], fun y hy => ?_⟩
  · rw [List.nodup_append]
    refine ⟨n.nd, by simp, fun a ha b hb => ?_⟩
    rw [List.mem_singleton.mp hb]
    rintro rfl
    exact hx ha
  · rcases List.mem_append.mp hy with z | z
    · exact n.nm y z
    · rw [List.mem_singleton.mp z]
      exact h1
  · rcases List.mem_append.mp hy with z | z
    · exact n.w3 y z
    · rw [List.mem_singleton.mp z]
      rcases h2 with z | ⟨j, a, b, _, z2, _⟩
      · exact .inl z
      · exact .inr (by rw [z2]; rfl)
  · rcases List.mem_append.mp hy with z | z
    · rcases n.w y z with z | ⟨j, a, b, z1, z2⟩
      · exact .inl z
      · exact .inr ⟨j, a, b, by omega, z2⟩
    · rw [List.mem_singleton.mp z]
      exact h2
theorem NmsI.fresh {i : Nat} {ns : List Str} {x : Str} {a b : Nat} (n : NmsI i ns) (e : tlS x = [119, a, b]) (ha : T25[i / 25]? = some a) (hb : T25[i % 25]? = some b) : x ∉ ns := by
  intro hx
  rcases n.w x hx with z | ⟨j, a', b', z1, z2, z3, z4⟩
  · exact z (by rw [e]; simp)
  · rw [e] at z2
    simp only [List.cons.injEq, and_true, true_and] at z2
    obtain ⟨rfl, rfl⟩ := z2
    have l1 := (List.getElem?_eq_some_iff.mp ha).1
    have l2 := (List.getElem?_eq_some_iff.mp hb).1
    have e1 := (List.getElem?_inj l1 t25_nd).mp (ha.trans z3.symm)
    have e2 := (List.getElem?_inj l2 t25_nd).mp (hb.trans z4.symm)
    omega
end Sb
namespace Sb
open PySem
theorem find_map_put {k k' : L2.Key} {v : PV} : ∀ l : List (L2.Key × PV), (l.map fun kv => if kv.1 = k then (kv.1, v) else kv).find? (fun kv => decide (kv.1 = k')) = if k' = k then (l.find? fun kv => decide (kv.1 = k)).map fun kv => (kv.1, v) else l.find? fun kv => decide (kv.1 = k')
  | [] => by simp
  | (a, b) :: r => by
    rw [List.map_cons]
    by_cases e : a = k
    · subst e
      by_cases e2 : k' = a
      · subst e2
        simp
      · have : ¬ a = k' := fun z => e2 z.symm
        simp [e2, this]
        have ih := find_map_put (k := a) (k' := k') (v := v) r
        simpa [e2] using ih
    · have ih := find_map_put (k := k) (k' := k') (v := v) r
      simp only [if_neg e]
      by_cases e3 : a = k'
      · subst e3
        simp [e]
      · simp only [List.find?_cons, e3, decide_false, e]
        exact ih
theorem val_put (l : List (L2.Key × PV)) (k k' : L2.Key) (v : PV) : valP (putP l k v) k' = if k' = k then some v else valP l k' := by
  unfold putP valP
  by_cases c : (l.any fun kv => decide (kv.1 = k)) = true
  · rw [if_pos c, find_map_put]
    by_cases e : k' = k
    · rw [if_pos e, if_pos e]
      obtain ⟨x, hx, ex⟩ := List.any_eq_true.mp c
      cases hf : l.find? fun kv => decide (kv.1 = k) with
      | none =>
        have := List.find?_eq_none.mp hf x hx
        exact absurd ex this
      | some y => rfl
    · rw [if_neg e, if_neg e]
  · rw [if_neg c, List.find?_append]
    by_cases e : k' = k
    · subst e
      have : l.find? (fun kv => decide (kv.1 = k')) = none := by
        rw [List.find?_eq_none]
        intro x hx z
        exact c (List.any_eq_true.mpr ⟨x, hx, z⟩)
      rw [this]
      simp
    · have : ¬ k = k' := fun z => e z.symm
      rw [if_neg e]
      simp [this]
/-- a scale's move in a world -/
structure Wb (q : Rat) : Prop where
  qs : Qs 12 q
  top : q.num.natAbs ≤ 999
  bot : q.den ≤ 99
theorem Wb.divInt {t b : Int} (hb : b ≠ 0) (h1 : t.natAbs ≤ 999) (h2 : b.natAbs ≤ 99) : Wb (Rat.divInt t b) := ⟨Qs.divInt hb (by omega) (by omega), (Bd.divInt hb h1 h2).num, (Bd.divInt hb h1 h2).den⟩
end Sb
namespace Sb
open PySem
structure Tel where
  name : Str
  st : Str
  en : Str
  a : Rat
  b : Rat
  tr : Int
  deriving DecidableEq
structure TelOk (ns : List Str) (t : Tel) : Prop where
  st : t.st ∈ ns
  en : t.en ∈ ns
  a0 : t.a ≠ 0
  qa : Qs 38 t.a
  qb : Qs 60 t.b
  t0 : 0 ≤ t.tr
  t1 : t.tr ≤ 10 ^ 12
  na : NearQ t.a
  nb : NearQ t.b
/-- .. also told the other way about -/
structure TelW (ns : List Str) (t : Tel) : Prop where
  st : t.st ∈ ns
  en : t.en ∈ ns
  a0 : t.a ≠ 0
  qa : Qs 40 t.a
  qb : Qs 100 t.b
  t0 : 0 ≤ t.tr
theorem TelOk.w {ns : List Str} {t : Tel} (o : TelOk ns t) : TelW ns t := ⟨o.st, o.en, o.a0, o.qa.mono (by decide), o.qb.mono (by decide), o.t0⟩
end Sb
namespace Sb
open PySem
def Tel.key (t : Tel) : Int × Str := (t.tr, t.name)
def leT (a b : Tel) : Bool := leTel a.key b.key
def ltT (a b : Tel) : Bool := !leT b a
def zas (ts : List Tel) : List Tel := ts.mergeSort leT
theorem sort_perm (ts : List Tel) : (zas ts).Perm ts := List.mergeSort_perm ..
theorem sort_pair (ts : List Tel) : (zas ts).Pairwise fun a b => leT a b = true := List.pairwise_mergeSort (fun a b c => leTel_trans a.key b.key c.key) (fun a b => leTel_total a.key b.key) ts
theorem sort_nd {ts : List Tel} (nd : (ts.map Tel.name).Nodup) : ((zas ts).map Tel.name).Nodup := ((sort_perm ts).map Tel.name).nodup_iff.mpr nd
end Sb
namespace Sb
open PySem
theorem perm_erase {α : Type} : ∀ {l : List α} {i : Nat} {x : α}, l[i]? = some x → (x :: l.eraseIdx i).Perm l
  | [], i, x, e => by simp at e
  | a :: r, 0, x, e => by
    simp at e
    subst e
    simp
  | a :: r, i + 1, x, e => by
    simp at e
    rw [List.eraseIdx_cons_succ]
    exact (List.Perm.swap a x _).trans ((perm_erase e).cons a)
theorem Fr.seq {h h' : PH} {v : PV} {l : List PV} (f : Fr [] h h') (e : seqOf h v = Option.some l) : seqOf h' v = Option.some l := by
  cases v with
  | tup k => exact e
  | cl k => exact e
  | ref n =>
    simp only [seqOf] at e ⊢
    cases hn : h[n]? with
    | none => rw [hn] at e; cases e
    | some o =>
      rw [hn] at e
      rw [f.some (by simp) hn]
      exact e
  | _ => cases e
end Sb
namespace Sb
open PySem
abbrev Mv := Rat × Rat
def thn2 (p q : Mv) : Mv := (q.1 * p.1, q.1 * p.2 + q.2)
def bck (p : Mv) : Mv := (1 / p.1, (0 - p.2) / p.1)
def rel (P : Str → Mv) (x y : Str) : Mv := thn2 (bck (P x)) (P y)
def one2 : Mv := (1, 0)
theorem zbq (p q r : Mv) : thn2 (thn2 p q) r = thn2 p (thn2 q r) := by
  unfold thn2
  ext <;> simp <;> grind
theorem thn_one (p : Mv) : thn2 p one2 = p := by
  unfold thn2 one2
  ext <;> simp <;> grind
theorem one_thn (p : Mv) : thn2 one2 p = p := by
  unfold thn2 one2
  ext <;> simp <;> grind
theorem bck_thn {p : Mv} (h : p.1 ≠ 0) : thn2 (bck p) p = one2 := by
  unfold thn2 bck one2
  ext <;> simp <;> grind
theorem thn_bck {p : Mv} (h : p.1 ≠ 0) : thn2 p (bck p) = one2 := by
  unfold thn2 bck one2
  ext <;> simp <;> grind
theorem bck_ne {p : Mv} (h : p.1 ≠ 0) : (bck p).1 ≠ 0 := by
  unfold bck
  intro z
  have : p.1 * (1 / p.1) = 1 := by grind
  rw [show (1 : Rat) / p.1 = 0 from z] at this
  grind
theorem thn_ne {p q : Mv} (h : p.1 ≠ 0) (g : q.1 ≠ 0) : (thn2 p q).1 ≠ 0 := by
  unfold thn2
  intro z
  rcases Rat.mul_eq_zero.mp z with z | z
  · exact g z
  · exact h z
theorem bck_bck {p : Mv} (h : p.1 ≠ 0) : bck (bck p) = p := by
  have e : thn2 (bck (bck p)) (thn2 (bck p) p) = p := by rw [← zbq, bck_thn (bck_ne h), one_thn]
  rwa [bck_thn h, thn_one] at e
theorem bck_thn2 {p q : Mv} (h : p.1 ≠ 0) (g : q.1 ≠ 0) : bck (thn2 p q) = thn2 (bck q) (bck p) := by
  have e : thn2 (bck (thn2 p q)) (thn2 (thn2 p q) (thn2 (bck q) (bck p))) = thn2 (bck q) (bck p) := by rw [← zbq, bck_thn (thn_ne h g), one_thn]
  rw [zbq p q, ← zbq q, thn_bck g, one_thn, thn_bck h, thn_one] at e
  exact e
section
variable {P : Str → Mv}
theorem rel_self {x : Str} (h : (P x).1 ≠ 0) : rel P x x = one2 := bck_thn h
theorem rel_thn {x y z : Str} (h : (P y).1 ≠ 0) : thn2 (rel P x y) (rel P y z) = rel P x z := by
  unfold rel
  rw [zbq, ← zbq (P y), thn_bck h, one_thn]
theorem rel_bck {x y : Str} (hx : (P x).1 ≠ 0) (hy : (P y).1 ≠ 0) : bck (rel P x y) = rel P y x := by
  unfold rel
  rw [bck_thn2 (bck_ne hx) hy, bck_bck hx]
end
inductive Joined (ts : List Tel) : Str → Str → Prop
  | refl (x : Str) : Joined ts x x
  | step {x y : Str} {t : Tel} (m : t ∈ ts) (j : Joined ts x y) (e : y = t.st) : Joined ts x t.en
  | back {x y : Str} {t : Tel} (m : t ∈ ts) (j : Joined ts x y) (e : y = t.en) : Joined ts x t.st
theorem Joined.trans {ts : List Tel} {x y z : Str} (a : Joined ts x y) (b : Joined ts y z) : Joined ts x z := by
  induction b with
  | refl => exact a
  | step m _ e ih => exact .step m ih e
  | back m _ e ih => exact .back m ih e
theorem Joined.of {ts : List Tel} {t : Tel} (m : t ∈ ts) : Joined ts t.st t.en := .step m (.refl _) rfl
theorem Joined.of' {ts : List Tel} {t : Tel} (m : t ∈ ts) : Joined ts t.en t.st := .back m (.refl _) rfl
theorem Joined.symm {ts : List Tel} {x y : Str} (a : Joined ts x y) : Joined ts y x := by
  induction a with
  | refl => exact .refl _
  | step m _ e ih => subst e; exact (Joined.of' m).trans ih
  | back m _ e ih => subst e; exact (Joined.of m).trans ih
theorem Joined.mono {ts us : List Tel} (h : ∀ t ∈ ts, t ∈ us) {x y : Str} (a : Joined ts x y) : Joined us x y := by
  induction a with
  | refl => exact .refl _
  | step m _ e ih => exact .step (h _ m) ih e
  | back m _ e ih => exact .back (h _ m) ih e
/-- where every telling of ts has both ends joined in us -/
theorem Joined.into {ts us : List Tel} (h : ∀ t ∈ ts, Joined us t.st t.en) {x y : Str} (a : Joined ts x y) : Joined us x y := by
  induction a with
  | refl => exact .refl _
  | step m _ e ih => subst e; exact ih.trans (h _ m)
  | back m _ e ih => subst e; exact ih.trans (h _ m).symm
def reMark (mk : Str → Str) (near far : Str) : Str → Str := fun x => if mk x = far then near else mk x
def ties : (Str → Str) → List Tel → List Tel
  | _, [] => []
  | mk, t :: r => if mk t.st = mk t.en then ties mk r else t :: ties (reMark mk (mk t.st) (mk t.en)) r
def tieRows (ts : List Tel) : List Tel := ties id (zas ts)
theorem ties_sub : ∀ (l : List Tel) (mk : Str → Str), (ties mk l).Sublist l
  | [], _ => List.Sublist.slnil
  | t :: r, mk => by
    unfold ties
    split
    · exact (ties_sub r _).cons _
    · exact (ties_sub r _).cons_cons _
/-- a telling that P agrees with -/
def Agrees (P : Str → Mv) (t : Tel) : Prop := (t.a, t.b) = rel P t.st t.en
/-- marks tell what is joined -/
theorem ties_spec : ∀ (l : List Tel) (mk : Str → Str) (F : List Tel) (P : Str → Mv), (∀ x, (P x).1 ≠ 0) → (∀ t ∈ l, t.a ≠ 0) → (∀ x y, mk x = mk y → Joined F x y) → (∀ t ∈ F, mk t.st = mk t.en) → (∀ t ∈ F, Agrees P t) →
    ∃ P' : Str → Mv, (∀ x, (P' x).1 ≠ 0) ∧ (∀ t ∈ F ++ ties mk l, Agrees P' t) ∧ ∀ t ∈ l, Joined (F ++ ties mk l) t.st t.en
  | [], mk, F, P, hP, ha, hj, hm, hg => ⟨P, hP, by simpa [ties] using hg, by simp⟩
  | t :: r, mk, F, P, hP, ha, hj, hm, hg => by
    unfold ties
    by_cases e : mk t.st = mk t.en
    · rw [if_pos e]
      obtain ⟨P', h1, h2, h3⟩ := ties_spec r mk F P hP (fun u hu => ha u (List.mem_cons_of_mem _ hu)) hj hm hg
      refine ⟨P', h1, h2, fun u hu => ?_⟩
      rcases List.mem_cons.mp hu with rfl | hu
      · exact (hj _ _ e).mono fun v hv => List.mem_append_left _ hv
      · exact h3 u hu
    · rw [if_neg e]
      let G : Mv := thn2 (thn2 (P t.st) (t.a, t.b)) (bck (P t.en))
      let P1 : Str → Mv := fun x => if mk x = mk t.en then thn2 G (P x) else P x
      have a0 : t.a ≠ 0 := ha t (List.mem_cons_self ..)
      have G0 : G.1 ≠ 0 := thn_ne (thn_ne (hP _) a0) (bck_ne (hP _))
      have hP1 : ∀ x, (P1 x).1 ≠ 0 := fun x => by
        show (if mk x = mk t.en then thn2 G (P x) else P x).1 ≠ 0
        split
        · exact thn_ne G0 (hP x)
        · exact hP x
      have same : ∀ x y, mk x = mk y → rel P1 x y = rel P x y := fun x y exy => by
        show thn2 (bck (if mk x = mk t.en then thn2 G (P x) else P x)) (if mk y = mk t.en then thn2 G (P y) else P y) = _
        rw [← exy]
        split
        · rw [bck_thn2 G0 (hP x), zbq, ← zbq (bck G), bck_thn G0, one_thn]
          rfl
        · rfl
      have new : Agrees P1 t := by
        show (t.a, t.b) = thn2 (bck (if mk t.st = mk t.en then thn2 G (P t.st) else P t.st)) (if mk t.en = mk t.en then thn2 G (P t.en) else P t.en)
        rw [if_neg e, if_pos rfl]
        show _ = thn2 (bck (P t.st)) (thn2 (thn2 (thn2 (P t.st) (t.a, t.b)) (bck (P t.en))) (P t.en))
        rw [zbq _ (bck (P t.en)), bck_thn (hP _), thn_one, ← zbq, bck_thn (hP _), one_thn]
      have c1 : ∀ x y, reMark mk (mk t.st) (mk t.en) x = reMark mk (mk t.st) (mk t.en) y → Joined (F ++ [t]) x y := by
        intro x y exy
        have up : ∀ {x y}, mk x = mk y → Joined (F ++ [t]) x y := fun z => (hj _ _ z).mono fun v hv => List.mem_append_left _ hv
        have jt : Joined (F ++ [t]) t.st t.en := Joined.of (by simp)
        unfold reMark at exy
        split at exy
        · rename_i zx
          split at exy
          · rename_i zy
            exact up (zx.trans zy.symm)
          · exact ((up zx).trans jt.symm).trans (up exy)
        · split at exy
          · rename_i zy
            exact ((up exy).trans jt).trans (up zy.symm)
          · exact up exy
      have c2 : ∀ u ∈ F ++ [t], reMark mk (mk t.st) (mk t.en) u.st = reMark mk (mk t.st) (mk t.en) u.en := by
        intro u hu
        rcases List.mem_append.mp hu with z | z
        · unfold reMark
          rw [hm u z]
        · rw [List.mem_singleton.mp z]
          unfold reMark
          rw [if_neg e, if_pos rfl]
      have c3 : ∀ u ∈ F ++ [t], Agrees P1 u := by
        intro u hu
        rcases List.mem_append.mp hu with z | z
        · unfold Agrees
          rw [same _ _ (hm u z)]
          exact hg u z
        · rw [List.mem_singleton.mp z]
          exact new
      obtain ⟨P', h1, h2, h3⟩ := ties_spec r (reMark mk (mk t.st) (mk t.en)) (F ++ [t]) P1 hP1 (fun u hu => ha u (List.mem_cons_of_mem _ hu)) c1 c2 c3
      have ea : F ++ [t] ++ ties (reMark mk (mk t.st) (mk t.en)) r = F ++ t :: ties (reMark mk (mk t.st) (mk t.en)) r := by simp
      rw [ea] at h2 h3
      refine ⟨P', h1, h2, fun u hu => ?_⟩
      rcases List.mem_cons.mp hu with rfl | hu
      · exact Joined.of (by simp)
      · exact h3 u hu
/-- readings that all ties tell; every telling's ends are joined by ties -/
theorem tieRows_spec {ts : List Tel} (ha : ∀ t ∈ ts, t.a ≠ 0) : ∃ P : Str → Mv, (∀ x, (P x).1 ≠ 0) ∧ (∀ t ∈ tieRows ts, Agrees P t) ∧ ∀ t ∈ ts, Joined (tieRows ts) t.st t.en := by
  obtain ⟨P, h1, h2, h3⟩ := ties_spec (zas ts) id [] (fun _ => one2) (fun _ => by show (1 : Rat) ≠ 0; decide) (fun t ht => ha t ((sort_perm ts).mem_iff.mp ht)) (fun x y e => by
    rw [show x = y from e]
    exact .refl _) (by simp) (by simp)
  rw [List.nil_append] at h2 h3
  exact ⟨P, h1, h2, fun t ht => h3 t ((sort_perm ts).mem_iff.mpr ht)⟩
theorem tieRows_mem {ts : List Tel} {t : Tel} (h : t ∈ tieRows ts) : t ∈ ts := (sort_perm ts).mem_iff.mp ((ties_sub _ _).mem h)
end Sb
namespace Sb
open PySem
theorem valP_mem {l : List (L2.Key × PV)} {k : L2.Key} {v : PV} (e : valP l k = some v) : (k, v) ∈ l := by
  unfold valP at e
  obtain ⟨kv, h1, h2⟩ := Option.map_eq_some_iff.mp e
  have := List.find?_some h1
  have hk : kv.1 = k := of_decide_eq_true this
  have := List.mem_of_find?_eq_some h1
  rw [← hk, ← h2]
  exact this
theorem valP_none {l : List (L2.Key × PV)} {k : L2.Key} (e : valP l k = none) : k ∉ l.map (·.1) := by
  unfold valP at e
  rw [Option.map_eq_none_iff, List.find?_eq_none] at e
  intro h
  obtain ⟨kv, h1, h2⟩ := List.mem_map.mp h
  exact e kv h1 (decide_eq_true h2)
theorem any_none {l : List (L2.Key × PV)} {k : L2.Key} (e : k ∉ l.map (·.1)) : ¬ (l.any fun kv => decide (kv.1 = k)) = true := fun h => by
  obtain ⟨kv, h1, h2⟩ := List.any_eq_true.mp h
  exact e (List.mem_map.mpr ⟨kv, h1, of_decide_eq_true h2⟩)
theorem put_new {l : List (L2.Key × PV)} {k : L2.Key} {v : PV} (e : k ∉ l.map (·.1)) : putP l k v = l ++ [(k, v)] := by
  unfold putP
  rw [if_neg (any_none e)]
structure MkOk (l : List (L2.Key × PV)) (mk : Str → Str) : Prop where
  nd : (l.map (·.1)).Nodup
  st : ∀ kv ∈ l, ∃ y, kv.2 = .str y
  at_ : ∀ x, valP l (.inr x) = some (.str (mk x)) ∨ (valP l (.inr x) = none ∧ mk x = x)
  pr : ∀ x, valP l (.inr x) ≠ none → valP l (.inr (mk x)) ≠ none
theorem MkOk.setd {l : List (L2.Key × PV)} {mk : Str → Str} {x : Str} (m : MkOk l mk) (e : valP l (.inr x) = none) : MkOk (putP l (.inr x) (.str x)) mk := by
  have ex : mk x = x := by
    rcases m.at_ x with z | z
    · rw [e] at z
      cases z
    · exact z.2
  have np := valP_none e
  refine ⟨?_, fun kv h => ?_, fun y => ?_, fun y hy => ?_⟩
  · rw [put_new np, List.map_append, List.nodup_append]
    refine ⟨m.nd, by simp, fun a ha b hb z => np ?_⟩
    simp at hb
    rw [← hb, ← z]
    exact ha
  · rw [put_new np] at h
    rcases List.mem_append.mp h with z | z
    · exact m.st kv z
    · rw [List.mem_singleton.mp z]
      exact ⟨x, rfl⟩
  · rw [val_put]
    by_cases z : y = x
    · subst z
      rw [if_pos rfl, ex]
      exact .inl rfl
    · rw [if_neg (by simpa using z)]
      exact m.at_ y
  · rw [val_put] at hy ⊢
    by_cases z : y = x
    · subst z
      rw [ex, if_pos rfl]
      simp
    · rw [if_neg (by simpa using z)] at hy
      split
      · simp
      · exact m.pr y hy
section
variable {C : Calls} {t : Bool} {ρ : Env} {h : PH}
@[simp] theorem g_remark (d a b : Nat) : evG C (.remark d a b) t ρ h = fin t (remarkP (ρ.get d) (ρ.get a) (ρ.get b) h) := by rfl
@[simp] theorem g_firsts (j : Nat) : evG C (.firsts j) t ρ h = fin t (firstsP (ρ.get j) h) := by rfl
end
end Sb
namespace Sb
open PySem
abbrev Step := Str × Bool
def stPV (s : Step) : PV := .tup [.str s.1, .bl s.2]
def stepOf (x : Str) (t : Tel) : List (Step × Str) := (if t.st = x then [((t.name, true), t.en)] else []) ++ (if t.en = x then [((t.name, false), t.st)] else [])
def stepsOf (rows : List Tel) (x : Str) : List (Step × Str) := rows.flatMap (stepOf x)
theorem steps_mem {rows : List Tel} {x : Str} {p : Step × Str} (h : p ∈ stepsOf rows x) : ∃ t ∈ rows, (p = ((t.name, true), t.en) ∧ t.st = x) ∨ (p = ((t.name, false), t.st) ∧ t.en = x) := by
  obtain ⟨t, ht, hp⟩ := List.mem_flatMap.mp h
  refine ⟨t, ht, ?_⟩
  unfold stepOf at hp
  rcases List.mem_append.mp hp with z | z
  · split at z
    · rename_i e
      exact .inl ⟨by simpa using z, e⟩
    · simp at z
  · split at z
    · rename_i e
      exact .inr ⟨by simpa using z, e⟩
    · simp at z
theorem steps_forth {rows : List Tel} {t : Tel} (h : t ∈ rows) : ((t.name, true), t.en) ∈ stepsOf rows t.st := List.mem_flatMap.mpr ⟨t, h, by simp [stepOf]⟩
theorem steps_back {rows : List Tel} {t : Tel} (h : t ∈ rows) : ((t.name, false), t.st) ∈ stepsOf rows t.en := List.mem_flatMap.mpr ⟨t, h, by simp [stepOf]⟩
/-- a walk -/
inductive Walk (rows : List Tel) (s : Str) : List Step → Str → Prop
  | nil : Walk rows s [] s
  | snoc {c : List Step} {x : Str} {p : Step × Str} (w : Walk rows s c x) (m : p ∈ stepsOf rows x) : Walk rows s (c ++ [p.1]) p.2
/-- a walk that comes to no scale twice: vs the scales that it comes to -/
inductive Path (rows : List Tel) (s : Str) : List Str → List Step → Str → Prop
  | nil : Path rows s [s] [] s
  | snoc {vs : List Str} {c : List Step} {x : Str} {p : Step × Str} (w : Path rows s vs c x) (m : p ∈ stepsOf rows x) (n : p.2 ∉ vs) : Path rows s (vs ++ [p.2]) (c ++ [p.1]) p.2
end Sb
namespace Sb
open PySem
theorem nodup_len {α : Type} [DecidableEq α] : ∀ {A B : List α}, A.Nodup → (∀ x ∈ A, x ∈ B) → A.length ≤ B.length
  | [], _, _, _ => Nat.zero_le _
  | a :: A, B, nd, h => by
    obtain ⟨n1, n2⟩ := List.nodup_cons.mp nd
    have ha := h a (List.mem_cons_self ..)
    have := nodup_len (A := A) (B := B.erase a) n2 fun x hx => (List.mem_erase_of_ne (fun z => n1 (by rw [← z]; exact hx))).mpr (h x (List.mem_cons_of_mem _ hx))
    rw [List.length_erase_of_mem ha] at this
    have : 0 < B.length := List.length_pos_of_mem ha
    rw [List.length_cons]
    omega
def ends (rows : List Tel) : List Str := rows.flatMap fun t => [t.st, t.en]
theorem ends_len : ∀ rows : List Tel, (ends rows).length = 2 * rows.length
  | [] => rfl
  | t :: r => by
    have : ends (t :: r) = t.st :: t.en :: ends r := by simp [ends]
    rw [this, List.length_cons, List.length_cons, ends_len r, List.length_cons]
    omega
theorem steps_ends {rows : List Tel} {x : Str} {p : Step × Str} (h : p ∈ stepsOf rows x) : p.2 ∈ ends rows := by
  obtain ⟨t, ht, ⟨rfl, _⟩ | ⟨rfl, _⟩⟩ := steps_mem h
  · exact List.mem_flatMap.mpr ⟨t, ht, by simp⟩
  · exact List.mem_flatMap.mpr ⟨t, ht, by simp⟩
/-- a path whose scales are among the keys -/
def Pth (rows : List Tel) (s : Str) (l : List (L2.Key × PV)) (ch : List Step) (x : Str) : Prop := ∃ vs, Path rows s vs ch x ∧ ∀ v ∈ vs, valP l (.inr v) ≠ none
theorem Pth.up {rows : List Tel} {s x y : Str} {l : List (L2.Key × PV)} {v : PV} {ch : List Step} (w : Pth rows s l ch x) : Pth rows s (putP l (.inr y) v) ch x := by
  obtain ⟨vs, w1, w2⟩ := w
  refine ⟨vs, w1, fun z hz => ?_⟩
  rw [val_put]
  split
  · simp
  · exact w2 z hz
theorem Pth.snoc {rows : List Tel} {s x : Str} {l : List (L2.Key × PV)} {v : PV} {ch : List Step} (w : Pth rows s l ch x) {p : Step × Str} (m : p ∈ stepsOf rows x) (n : valP l (.inr p.2) = none) : Pth rows s (putP l (.inr p.2) v) (ch ++ [p.1]) p.2 := by
  obtain ⟨vs, w1, w2⟩ := w
  refine ⟨vs ++ [p.2], w1.snoc m fun hp => w2 _ hp n, fun z hz => ?_⟩
  rw [val_put]
  split
  · simp
  · rename_i hne
    rcases List.mem_append.mp hz with q | q
    · exact w2 z q
    · rw [List.mem_singleton.mp q] at hne
      exact absurd rfl hne
/-- the roads found so far -/
structure RdOk (rows : List Tel) (s : Str) (h : PH) (lo d w : Nat) (l : List (L2.Key × PV)) : Prop where
  nd : (l.map (·.1)).Nodup
  ky : ∀ kv ∈ l, ∃ x m ch, kv = (.inr x, .ref m) ∧ h[m]? = some (.lst (ch.map stPV)) ∧ Pth rows s l ch x ∧ ch.length < l.length ∧ lo ≤ m ∧ m ≠ d ∧ m ≠ w ∧ (x = s ∨ x ∈ ends rows)
theorem RdOk.len {rows : List Tel} {s : Str} {h : PH} {lo d w : Nat} {l : List (L2.Key × PV)} (r : RdOk rows s h lo d w l) : l.length ≤ 2 * rows.length + 1 := by
  have := nodup_len (A := l.map (·.1)) (B := (s :: ends rows).map Sum.inr) r.nd fun k hk => by
    obtain ⟨kv, h1, rfl⟩ := List.mem_map.mp hk
    obtain ⟨x, m, ch, rfl, _, _, _, _, _, _, hx⟩ := r.ky kv h1
    exact List.mem_map.mpr ⟨x, by simpa using hx, rfl⟩
  rw [List.length_map, List.length_map, List.length_cons, ends_len] at this
  exact this
theorem RdOk.frame {rows : List Tel} {s : Str} {h h' : PH} {lo d w : Nat} {l : List (L2.Key × PV)} (r : RdOk rows s h lo d w l) (f : ∀ m, m ≠ d → m ≠ w → ∀ o, h[m]? = some o → h'[m]? = some o) : RdOk rows s h' lo d w l := ⟨r.nd, fun kv hk => by
  obtain ⟨x, m, ch, e, h1, h2, h3, h4, h5, h6, h7⟩ := r.ky kv hk
  exact ⟨x, m, ch, e, f m h5 h6 _ h1, h2, h3, h4, h5, h6, h7⟩⟩
theorem RdOk.get {rows : List Tel} {s : Str} {h : PH} {lo d w : Nat} {l : List (L2.Key × PV)} (r : RdOk rows s h lo d w l) {x : Str} {v : PV} (e : valP l (.inr x) = some v) : ∃ m ch, v = .ref m ∧ h[m]? = some (.lst (ch.map stPV)) ∧ Pth rows s l ch x ∧ ch.length < l.length ∧ m ≠ d ∧ m ≠ w := by
  obtain ⟨y, m, ch, e1, h1, h2, h3, h4, h5, h6, _⟩ := r.ky _ (valP_mem e)
  cases e1
  exact ⟨m, ch, rfl, h1, h2, h3, h5, h6⟩
theorem RdOk.add {rows : List Tel} {s : Str} {h : PH} {lo d w m : Nat} {l : List (L2.Key × PV)} {y : Str} {ch : List Step} (r : RdOk rows s h lo d w l) (n : valP l (.inr y) = none) (e : h[m]? = some (.lst (ch.map stPV))) (wk : Pth rows s (putP l (.inr y) (.ref m)) ch y) (hc : ch.length ≤ l.length) (h1 : lo ≤ m) (h2 : m ≠ d) (h3 : m ≠ w) (hy : y ∈ ends rows) : RdOk rows s h lo d w (putP l (.inr y) (.ref m)) := by
  have np := valP_none n
  have pu : ∀ {x ch}, Pth rows s l ch x → Pth rows s (l ++ [(.inr y, .ref m)]) ch x := fun {x ch} w => by
    have := w.up (y := y) (v := .ref m)
    rwa [put_new np] at this
  rw [put_new np] at wk ⊢
  refine ⟨?_, fun kv hk => ?_⟩
  · rw [List.map_append, List.nodup_append]
    refine ⟨r.nd, by simp, fun a ha b hb z => np ?_⟩
    simp at hb
    rw [← hb, ← z]
    exact ha
  · rcases List.mem_append.mp hk with z | z
    · obtain ⟨x, m, ch, e, h1, h2, h3, h4⟩ := r.ky kv z
      exact ⟨x, m, ch, e, h1, pu h2, by simp; omega, h4⟩
    · rw [List.mem_singleton.mp z]
      exact ⟨y, m, ch, rfl, e, wk, by simp; omega, h1, h2, h3, .inr hy⟩
theorem b_addL {h : PH} {m n : Nat} {l k : List PV} (e1 : h[m]? = some (.lst l)) (e2 : h[n]? = some (.lst k)) (hl : l.length + k.length ≤ 1000000) : binop .Add (.ref m) (.ref n) h = .ok (.ref h.length) (h ++ [.lst (l ++ k)]) := by
  simp only [binop, e1, e2]
  rw [if_pos (zbp hl), zaf _ (by rw [List.length_append]; exact hl)]
end Sb
namespace Sb
open PySem
theorem Walk.pre {rows : List Tel} {s x : Str} {c : List Step} (w : Walk rows s c x) : ∀ i, i ≤ c.length → ∃ y, Walk rows s (c.take i) y := by
  induction w with
  | nil => exact fun i _ => ⟨s, by simpa using Walk.nil⟩
  | @snoc c x p w m ih =>
    intro i hi
    rw [List.length_append] at hi
    simp at hi
    by_cases h : i ≤ c.length
    · obtain ⟨y, hy⟩ := ih i h
      refine ⟨y, ?_⟩
      rw [List.take_append_of_le_length h]
      exact hy
    · have : i = (c ++ [p.1]).length := by simp; omega
      rw [this, List.take_length]
      exact ⟨p.2, w.snoc m⟩
/-- what is asked of rows and readings -/
structure Rows (ts rows : List Tel) (P : Str → Mv) : Prop where
  nd : (ts.map Tel.name).Nodup
  sub : ∀ t ∈ rows, t ∈ ts
  p0 : ∀ x, (P x).1 ≠ 0
  ag : ∀ t ∈ rows, Agrees P t
  qa : ∀ t ∈ ts, t.a ≠ 0 ∧ Qs 40 t.a ∧ Qs 100 t.b
end Sb
namespace Sb
open PySem
/-- tellings over scales -/
structure Bk (ns : List Str) (ts : List Tel) : Prop where
  nd : (ts.map Tel.name).Nodup
  ok : ∀ t ∈ ts, TelW ns t
  len : ts.length ≤ 1000
  nl : ns.length ≤ 26
/-- the defs of the forest -/
structure TF (tbl : Nat → Fn) : Prop where
  h32 : tbl 32 = F_in_order
  h39 : tbl 39 = F_tie_rows
  h40 : tbl 40 = F_steps_from
  h41 : tbl 41 = F_roads_among
  h42 : tbl 42 = F_road_among
  h43 : tbl 43 = F_road_of
  h44 : tbl 44 = F_chain_move
  h45 : tbl 45 = F_move_of
/-- .. those of roads alone -/
structure TR (tbl : Nat → Fn) : Prop where
  h32 : tbl 32 = F_in_order
  h39 : tbl 39 = F_tie_rows
  h40 : tbl 40 = F_steps_from
  h41 : tbl 41 = F_roads_among
  h42 : tbl 42 = F_road_among
  h43 : tbl 43 = F_road_of
theorem TF.tr {tbl : Nat → Fn} (f : TF tbl) : TR tbl := ⟨f.h32, f.h39, f.h40, f.h41, f.h42, f.h43⟩
theorem Bk.ends {ns : List Str} {ts rows : List Tel} (b : Bk ns ts) (sub : ∀ t ∈ rows, t ∈ ts) : ∀ x ∈ ends rows, x ∈ ns := fun x hx => by
  obtain ⟨t, ht, hm⟩ := List.mem_flatMap.mp hx
  simp at hm
  rcases hm with rfl | rfl
  · exact (b.ok t (sub t ht)).st
  · exact (b.ok t (sub t ht)).en
theorem Bk.rows {ns : List Str} {ts : List Tel} (b : Bk ns ts) : ∃ P, Rows ts (tieRows ts) P ∧ ∀ t ∈ ts, Joined (tieRows ts) t.st t.en := by
  obtain ⟨P, h1, h2, h3⟩ := tieRows_spec fun t ht => (b.ok t ht).a0
  exact ⟨P, ⟨b.nd, fun t => tieRows_mem, h1, h2, fun t ht => ⟨(b.ok t ht).a0, (b.ok t ht).qa, (b.ok t ht).qb⟩⟩, h3⟩
end Sb
namespace Sb
open PySem
theorem tel_uniq {ts : List Tel} (nd : (ts.map Tel.name).Nodup) {u v : Tel} (hu : u ∈ ts) (hv : v ∈ ts) (en : v.name = u.name) : v = u := by
  obtain ⟨a1, b1⟩ := mem_get hv
  obtain ⟨a2, b2⟩ := mem_get hu
  have e1 : (ts.map Tel.name)[a1]? = some v.name := by rw [List.getElem?_map, b1]; rfl
  have e2 : (ts.map Tel.name)[a2]? = some u.name := by rw [List.getElem?_map, b2]; rfl
  have := (List.getElem?_inj (j := a2) (List.getElem?_eq_some_iff.mp e1).1 nd).mp (by rw [e1, e2, en])
  subst this
  rw [b1] at b2
  exact Option.some.inj b2
end Sb
namespace Sb
open PySem
theorem joined_snoc {F : List Tel} {t : Tel} {x y : Str} (j : Joined (F ++ [t]) x y) : Joined F x y ∨ (Joined F x t.st ∧ Joined F t.en y) ∨ (Joined F x t.en ∧ Joined F t.st y) := by
  induction j with
  | refl => exact .inl (.refl _)
  | @step y u m j e ih =>
    rcases List.mem_append.mp m with hm | hm
    · rcases ih with a | ⟨a, b⟩ | ⟨a, b⟩
      · exact .inl (.step hm a e)
      · exact .inr (.inl ⟨a, .step hm b e⟩)
      · exact .inr (.inr ⟨a, .step hm b e⟩)
    · have hu := List.mem_singleton.mp hm
      subst hu
      subst e
      rcases ih with a | ⟨a, b⟩ | ⟨a, b⟩
      · exact .inr (.inl ⟨a, .refl _⟩)
      · exact .inl (a.trans b.symm)
      · exact .inl a
  | @back y u m j e ih =>
    rcases List.mem_append.mp m with hm | hm
    · rcases ih with a | ⟨a, b⟩ | ⟨a, b⟩
      · exact .inl (.back hm a e)
      · exact .inr (.inl ⟨a, .back hm b e⟩)
      · exact .inr (.inr ⟨a, .back hm b e⟩)
    · have hu := List.mem_singleton.mp hm
      subst hu
      subst e
      rcases ih with a | ⟨a, b⟩ | ⟨a, b⟩
      · exact .inr (.inr ⟨a, .refl _⟩)
      · exact .inl a
      · exact .inl (a.trans b.symm)
theorem joined_snoc_iff {F : List Tel} {t : Tel} {x y : Str} : Joined (F ++ [t]) x y ↔ Joined F x y ∨ (Joined F x t.st ∧ Joined F t.en y) ∨ (Joined F x t.en ∧ Joined F t.st y) := by
  refine ⟨joined_snoc, fun q => ?_⟩
  have up : ∀ {x y}, Joined F x y → Joined (F ++ [t]) x y := fun j => j.mono fun u hu => List.mem_append_left _ hu
  have jt : Joined (F ++ [t]) t.st t.en := Joined.of (by simp)
  rcases q with a | ⟨a, b⟩ | ⟨a, b⟩
  · exact up a
  · exact ((up a).trans jt).trans (up b)
  · exact ((up a).trans jt.symm).trans (up b)
theorem joined_congr {F G : List Tel} (h : ∀ t, t ∈ F ↔ t ∈ G) {x y : Str} : Joined F x y ↔ Joined G x y := ⟨fun j => j.mono fun t => (h t).mp, fun j => j.mono fun t => (h t).mpr⟩
theorem joined_skip {F : List Tel} {t : Tel} (h : Joined F t.st t.en) {x y : Str} : Joined (F ++ [t]) x y ↔ Joined F x y := ⟨fun j => j.into fun u hu => by
  rcases List.mem_append.mp hu with z | z
  · exact .of z
  · rw [List.mem_singleton.mp z]
    exact h, fun j => j.mono fun u hu => List.mem_append_left _ hu⟩
theorem ltT_irr (t : Tel) : ltT t t = false := by
  have := leTel_total t.key t.key
  simp at this
  simp [ltT, leT, this]
theorem lt_not {u t : Tel} (h : leT t u = true) : ltT u t = false := by simp [ltT, h]
theorem lt_of_le {u t : Tel} (h : leT u t = true) (n : u.name ≠ t.name) : ltT u t = true := by
  unfold ltT
  cases h2 : leT t u with
  | false => rfl
  | true => exact absurd (congrArg Prod.snd (leTel_anti h h2)) n
theorem le_of_lt {u t : Tel} (h : ltT u t = true) : leT u t = true := by
  have := leTel_total u.key t.key
  unfold ltT at h
  unfold leT at h ⊢
  cases h2 : leTel u.key t.key with
  | true => rfl
  | false =>
    rw [h2] at this
    simp at this
    rw [this] at h
    cases h
/-- those ahead of one -/
def ahead (ts : List Tel) (t : Tel) : List Tel := ts.filter fun u => ltT u t
theorem mem_ahead {ts : List Tel} {t u : Tel} : u ∈ ahead ts t ↔ u ∈ ts ∧ ltT u t = true := List.mem_filter
/-- it joins two groups -/
def IsTie (ts : List Tel) (t : Tel) : Prop := ¬ Joined (ahead ts t) t.st t.en
theorem pre_ahead {ts A C : List Tel} {t : Tel} (nd : (ts.map Tel.name).Nodup) (es : zas ts = A ++ t :: C) : ∀ u, u ∈ A ↔ u ∈ ahead ts t := by
  intro u
  have o := sort_pair ts
  have nd' := sort_nd nd
  have sm : u ∈ ts ↔ u ∈ A ++ t :: C := by rw [← es]; exact (sort_perm ts).mem_iff.symm
  rw [es] at o nd'
  rw [List.pairwise_append] at o
  obtain ⟨_, o2, o3⟩ := o
  rw [List.pairwise_cons] at o2
  rw [List.map_append, List.nodup_append] at nd'
  rw [mem_ahead, sm]
  constructor
  · intro hu
    refine ⟨List.mem_append_left _ hu, lt_of_le (o3 u hu t (List.mem_cons_self ..)) ?_⟩
    exact nd'.2.2 _ (List.mem_map.mpr ⟨u, hu, rfl⟩) _ (List.mem_map.mpr ⟨t, List.mem_cons_self .., rfl⟩)
  · rintro ⟨hm, hl⟩
    rcases List.mem_append.mp hm with z | z
    · exact z
    · rcases List.mem_cons.mp z with rfl | z
      · rw [ltT_irr] at hl
        cases hl
      · rw [lt_not (o2.1 u z)] at hl
        cases hl
open Classical in
/-- the ties of a list, those of pre being ahead -/
noncomputable def tiesJ : List Tel → List Tel → List Tel
  | _, [] => []
  | pre, t :: r => if Joined pre t.st t.en then tiesJ (pre ++ [t]) r else t :: tiesJ (pre ++ [t]) r
theorem ties_J : ∀ (l : List Tel) (mk : Str → Str) (pre : List Tel), (∀ x y, mk x = mk y ↔ Joined pre x y) → ties mk l = tiesJ pre l
  | [], _, _, _ => rfl
  | t :: r, mk, pre, hj => by
    unfold ties tiesJ
    by_cases e : mk t.st = mk t.en
    · have j := (hj _ _).mp e
      rw [if_pos e, if_pos j]
      exact ties_J r mk _ fun x y => (hj x y).trans (joined_skip j).symm
    · have j : ¬ Joined pre t.st t.en := fun z => e ((hj _ _).mpr z)
      rw [if_neg e, if_neg j]
      congr 1
      refine ties_J r _ _ fun x y => ?_
      rw [joined_snoc_iff, ← hj, ← hj, ← hj, ← hj, ← hj]
      unfold reMark
      by_cases hx : mk x = mk t.en
      · rw [if_pos hx]
        by_cases hy : mk y = mk t.en
        · rw [if_pos hy]
          exact ⟨fun _ => .inl (hx.trans hy.symm), fun _ => rfl⟩
        · rw [if_neg hy]
          constructor
          · intro z
            exact .inr (.inr ⟨hx, z⟩)
          · rintro (z | ⟨_, z⟩ | ⟨_, z⟩)
            · exact absurd (z.symm.trans hx) hy
            · exact absurd z.symm hy
            · exact z
      · rw [if_neg hx]
        by_cases hy : mk y = mk t.en
        · rw [if_pos hy]
          constructor
          · intro z
            exact .inr (.inl ⟨z, hy.symm⟩)
          · rintro (z | ⟨z, _⟩ | ⟨z, _⟩)
            · exact absurd (z.trans hy) hx
            · exact z
            · exact absurd z hx
        · rw [if_neg hy]
          constructor
          · intro z
            exact .inl z
          · rintro (z | ⟨_, z⟩ | ⟨z, _⟩)
            · exact z
            · exact absurd z.symm hy
            · exact absurd z hx
open Classical in
theorem tiesJ_filter {ts : List Tel} (nd : (ts.map Tel.name).Nodup) : ∀ (l pre : List Tel), zas ts = pre ++ l → tiesJ pre l = l.filter fun t => decide (IsTie ts t)
  | [], _, _ => rfl
  | t :: r, pre, es => by
    have ih := tiesJ_filter nd r (pre ++ [t]) (by rw [es]; simp)
    unfold tiesJ
    have jc : Joined pre t.st t.en ↔ Joined (ahead ts t) t.st t.en := joined_congr (pre_ahead nd es)
    by_cases j : Joined pre t.st t.en
    · rw [if_pos j, ih, List.filter_cons_of_neg]
      rw [decide_eq_true_eq]
      exact fun z => z (jc.mp j)
    · rw [if_neg j, ih, List.filter_cons_of_pos]
      rw [decide_eq_true_eq]
      exact fun z => j (jc.mpr z)
theorem joined_nil {x y : Str} (j : Joined [] x y) : x = y := by
  induction j with
  | refl => rfl
  | step m => cases m
  | back m => cases m
open Classical in
theorem tieRows_eq {ts : List Tel} (nd : (ts.map Tel.name).Nodup) : tieRows ts = (zas ts).filter fun t => decide (IsTie ts t) := by
  unfold tieRows
  rw [ties_J (zas ts) id [] fun x y => ⟨fun e => by rw [show x = y from e]; exact .refl _, joined_nil⟩]
  exact tiesJ_filter nd _ _ rfl
theorem mem_ties {ts : List Tel} (nd : (ts.map Tel.name).Nodup) {t : Tel} : t ∈ tieRows ts ↔ t ∈ ts ∧ IsTie ts t := by
  rw [tieRows_eq nd, List.mem_filter, (sort_perm ts).mem_iff]
  simp
theorem Path.vmem {rows : List Tel} {s x : Str} {vs : List Str} {c : List Step} (w : Path rows s vs c x) : x ∈ vs ∧ s ∈ vs := by
  induction w with
  | nil => simp
  | snoc w m n ih => exact ⟨by simp, List.mem_append_left _ ih.2⟩
/-- these tellings, if they agree, tell of x and y this move -/
def Says (F : List Tel) (x y : Str) (m : Mv) : Prop := Joined F x y ∧ ∀ P : Str → Mv, (∀ z, (P z).1 ≠ 0) → (∀ t ∈ F, Agrees P t) → rel P x y = m
theorem Says.mono {F G : List Tel} (h : ∀ t ∈ F, t ∈ G) {x y : Str} {m : Mv} (s : Says F x y m) : Says G x y m := ⟨s.1.mono h, fun P p0 pa => s.2 P p0 fun t ht => pa t (h t ht)⟩
end Sb
namespace Sb
open PySem
theorem Path.nodup {rows : List Tel} {s x : Str} {vs : List Str} {c : List Step} (w : Path rows s vs c x) : vs.Nodup ∧ vs.length = c.length + 1 := by
  induction w with
  | nil => simp
  | snoc w m n ih =>
    refine ⟨?_, by simp [ih.2]⟩
    rw [List.nodup_append]
    refine ⟨ih.1, by simp, fun a ha b hb z => n ?_⟩
    rw [← List.mem_singleton.mp hb, ← z]
    exact ha
theorem Path.among {rows : List Tel} {s x : Str} {vs : List Str} {c : List Step} (w : Path rows s vs c x) : ∀ v ∈ vs, v = s ∨ v ∈ ends rows := by
  induction w with
  | nil => simp
  | snoc w m n ih =>
    intro v hv
    rcases List.mem_append.mp hv with z | z
    · exact ih v z
    · rw [List.mem_singleton.mp z]
      exact .inr (steps_ends m)
theorem Path.pre {rows : List Tel} {s x : Str} {vs : List Str} {c : List Step} (w : Path rows s vs c x) : ∀ v ∈ vs, ∃ vs' c', Path rows s vs' c' v := by
  induction w with
  | nil =>
    intro v hv
    rw [List.mem_singleton.mp hv]
    exact ⟨_, _, .nil⟩
  | snoc w m n ih =>
    intro v hv
    rcases List.mem_append.mp hv with z | z
    · exact ih v z
    · rw [List.mem_singleton.mp z]
      exact ⟨_, _, w.snoc m n⟩
theorem Joined.path {rows : List Tel} {s x : Str} (j : Joined rows s x) : ∃ vs c, Path rows s vs c x := by
  have add : ∀ {y : Str} {p : Step × Str}, (∃ vs c, Path rows s vs c y) → p ∈ stepsOf rows y → ∃ vs c, Path rows s vs c p.2 := by
    rintro y p ⟨vs, c, w⟩ m
    by_cases h : p.2 ∈ vs
    · exact w.pre _ h
    · exact ⟨_, _, w.snoc m h⟩
  induction j with
  | refl => exact ⟨_, _, .nil⟩
  | @step y t m j e ih => exact add ih (p := ((t.name, true), t.en)) (by rw [e]; exact steps_forth m)
  | @back y t m j e ih => exact add ih (p := ((t.name, false), t.st)) (by rw [e]; exact steps_back m)
theorem Path.short {rows : List Tel} {s x : Str} {vs : List Str} {c : List Step} (w : Path rows s vs c x) {ns : List Str} (hs : s ∈ ns) (he : ∀ x ∈ ends rows, x ∈ ns) : c.length < ns.length := by
  have := nodup_len (A := vs) (B := ns) w.nodup.1 fun v hv => (w.among v hv).elim (fun z => by rw [z]; exact hs) (he v)
  have := w.nodup.2
  omega
/-- how great the numbers of a path's move are -/
theorem Path.size {rows : List Tel} {s x : Str} {vs : List Str} {c : List Step} (w : Path rows s vs c x) {P : Str → Mv} (p0 : ∀ z, (P z).1 ≠ 0) (pa : ∀ t ∈ rows, Agrees P t) (qa : ∀ t ∈ rows, t.a ≠ 0 ∧ Qs 40 t.a ∧ Qs 100 t.b) : Qs (1 + 61 * c.length) (rel P s x).1 ∧ Qs (1 + 184 * c.length) (rel P s x).2 := by
  induction w with
  | nil =>
    rw [rel_self (p0 s)]
    exact ⟨q1, q0⟩
  | @snoc vs c y p w m n ih =>
    rw [← rel_thn (y := y) (p0 y)]
    have key : ∀ cd : Mv, Qs 41 cd.1 → Qs 142 cd.2 → Qs (1 + 61 * (c ++ [p.1]).length) (thn2 (rel P s y) cd).1 ∧ Qs (1 + 184 * (c ++ [p.1]).length) (thn2 (rel P s y) cd).2 := fun cd h1 h2 => by
      have l : (c ++ [p.1]).length = c.length + 1 := by simp
      rw [l]
      exact ⟨(h1.mul ih.1).mono (by omega), ((h1.mul ih.2).add h2).mono (by omega)⟩
    obtain ⟨t, ht, ⟨rfl, hx⟩ | ⟨rfl, hx⟩⟩ := steps_mem m
    · have := pa t ht
      unfold Agrees at this
      subst hx
      rw [← this]
      exact key (t.a, t.b) ((qa t ht).2.1.mono (by decide)) ((qa t ht).2.2.mono (by decide))
    · have := pa t ht
      unfold Agrees at this
      subst hx
      rw [← rel_bck (p0 t.st) (p0 t.en), ← this]
      have ua := qa t ht
      exact key (bck (t.a, t.b)) ((q1.div ua.2.1 (num_ne ua.1)).mono (by decide)) (((q0.sub ua.2.2).div ua.2.1 (num_ne ua.1)).mono (by decide))
structure MD (ns : List Str) (l : List (L2.Key × PV)) (f : Str → PV) (seen : Str → Prop) : Prop where
  nd : (l.map (·.1)).Nodup
  at_ : ∀ x, seen x → valP l (.inr x) = some (f x)
  no : ∀ x, ¬ seen x → valP l (.inr x) = none
  ky : ∀ kv ∈ l, ∃ x ∈ ns, kv.1 = .inr x
theorem MD.len {ns : List Str} {l : List (L2.Key × PV)} {f : Str → PV} {seen : Str → Prop} (m : MD ns l f seen) : l.length ≤ ns.length := by
  have := nodup_len (A := l.map (·.1)) (B := ns.map Sum.inr) m.nd fun k hk => by
    obtain ⟨kv, h1, rfl⟩ := List.mem_map.mp hk
    obtain ⟨x, hx, e⟩ := m.ky kv h1
    rw [e]
    exact List.mem_map.mpr ⟨x, hx, rfl⟩
  rwa [List.length_map, List.length_map] at this
open Classical in
theorem put_keys {l : List (L2.Key × PV)} {k : L2.Key} {v : PV} : (putP l k v).map (·.1) = if k ∈ l.map (·.1) then l.map (·.1) else l.map (·.1) ++ [k] := by
  by_cases h : k ∈ l.map (·.1)
  · rw [if_pos h]
    unfold putP
    rw [if_pos (by obtain ⟨kv, h1, h2⟩ := List.mem_map.mp h; exact List.any_eq_true.mpr ⟨kv, h1, by simpa using h2⟩), List.map_map]
    refine List.map_congr_left fun kv _ => ?_
    simp only [Function.comp_apply]
    split <;> rfl
  · rw [if_neg h, put_new h]
    simp
theorem MD.put {ns : List Str} {l : List (L2.Key × PV)} {f : Str → PV} {seen : Str → Prop} (m : MD ns l f seen) {x : Str} (hx : x ∈ ns) (v : PV) : MD ns (putP l (.inr x) v) (fun y => if y = x then v else f y) fun y => seen y ∨ y = x := by
  refine ⟨?_, fun y hy => ?_, fun y hy => ?_, fun kv hk => ?_⟩
  · rw [put_keys]
    split
    · exact m.nd
    · rename_i h
      rw [List.nodup_append]
      refine ⟨m.nd, by simp, fun a ha b hb z => h ?_⟩
      rw [← List.mem_singleton.mp hb, ← z]
      exact ha
  · rw [val_put]
    by_cases e : y = x
    · subst e
      rw [if_pos rfl, if_pos rfl]
    · rw [if_neg (by simpa using e), if_neg e]
      exact m.at_ y (hy.resolve_right e)
  · rw [val_put, if_neg (by simpa using fun z : y = x => hy (.inr z))]
    exact m.no y fun z => hy (.inl z)
  · have : kv.1 ∈ (putP l (.inr x) v).map (·.1) := List.mem_map.mpr ⟨kv, hk, rfl⟩
    rw [put_keys] at this
    have old : kv.1 ∈ l.map (·.1) → ∃ x ∈ ns, kv.1 = .inr x := fun h => by
      obtain ⟨kv', h1, h2⟩ := List.mem_map.mp h
      rw [← h2]
      exact m.ky kv' h1
    split at this
    · exact old this
    · rcases List.mem_append.mp this with z | z
      · exact old z
      · exact ⟨x, hx, List.mem_singleton.mp z⟩
theorem MD.nil (ns : List Str) (f : Str → PV) : MD ns [] f fun _ => False := ⟨List.nodup_nil, fun _ h => h.elim, fun _ _ => rfl, by simp⟩
open Classical in
noncomputable def zb1 (ts : List Tel) (i : Nat) : List Tel := ((zas ts).take i).filter fun t => decide (IsTie ts t)
theorem mem_tieTake {ts : List Tel} {i : Nat} {t : Tel} : t ∈ zb1 ts i ↔ t ∈ (zas ts).take i ∧ IsTie ts t := by
  unfold zb1
  rw [List.mem_filter]
  simp
theorem tieTake_sub {ts : List Tel} (nd : (ts.map Tel.name).Nodup) {i : Nat} {t : Tel} (h : t ∈ zb1 ts i) : t ∈ tieRows ts := (mem_ties nd).mpr ⟨(sort_perm ts).mem_iff.mp (List.mem_of_mem_take (mem_tieTake.mp h).1), (mem_tieTake.mp h).2⟩
theorem split_at {ts : List Tel} {i : Nat} {t : Tel} (hi : (zas ts)[i]? = some t) : zas ts = (zas ts).take i ++ t :: (zas ts).drop (i + 1) := by
  obtain ⟨h1, h2⟩ := List.getElem?_eq_some_iff.mp hi
  conv => lhs; rw [← List.take_append_drop i (zas ts), List.drop_eq_getElem_cons h1, h2]
theorem take_joined {ts : List Tel} (nd : (ts.map Tel.name).Nodup) : ∀ (i : Nat), ∀ u ∈ (zas ts).take i, Joined (zb1 ts i) u.st u.en
  | 0, _, h => by simp at h
  | i + 1, u, h => by
    have up : ∀ {x y}, Joined (zb1 ts i) x y → Joined (zb1 ts (i + 1)) x y := fun j => j.mono fun v hv => by
      rw [mem_tieTake] at hv ⊢
      exact ⟨by rw [List.take_add_one]; exact List.mem_append_left _ hv.1, hv.2⟩
    rw [List.take_add_one] at h
    rcases List.mem_append.mp h with z | z
    · exact up (take_joined nd i u z)
    · cases hi : (zas ts)[i]? with
      | none => rw [hi] at z; simp at z
      | some t =>
        rw [hi] at z
        have eu : u = t := by simpa using z
        subst eu
        by_cases ht : IsTie ts u
        · refine Joined.of (mem_tieTake.mpr ⟨?_, ht⟩)
          rw [List.take_add_one, hi]
          simp
        · have j : Joined (ahead ts u) u.st u.en := Classical.byContradiction ht
          exact up (((joined_congr (pre_ahead nd (split_at hi))).mpr j).into (take_joined nd i))
theorem take_joined_iff {ts : List Tel} (nd : (ts.map Tel.name).Nodup) {i : Nat} {x y : Str} : Joined ((zas ts).take i) x y ↔ Joined (zb1 ts i) x y := ⟨fun j => j.into (take_joined nd i), fun j => j.mono fun t ht => (mem_tieTake.mp ht).1⟩
theorem tie_at {ts : List Tel} (nd : (ts.map Tel.name).Nodup) {i : Nat} {t : Tel} (hi : (zas ts)[i]? = some t) : IsTie ts t ↔ ¬ Joined ((zas ts).take i) t.st t.en := not_congr (joined_congr (pre_ahead nd (split_at hi))).symm
end Sb
namespace Sb
open PySem
structure LW (ns : List Str) (ts : List Tel) (i : Nat) (mk : Str → Str) (P : Str → Mv) (seen : Str → Prop) : Prop where
  jn : ∀ x y, mk x = mk y ↔ Joined ((zas ts).take i) x y
  idm : ∀ x, mk (mk x) = mk x
  p0 : ∀ x, (P x).1 ≠ 0
  ag : ∀ t ∈ zb1 ts i, Agrees P t
  rt : ∀ x, P (mk x) = one2
  un : ∀ x, ¬ seen x → mk x = x ∧ P x = one2
  ms : ∀ x, seen x → seen (mk x)
  sn : ∀ x, seen x → x ∈ ns
theorem one_ne : (one2).1 ≠ 0 := by show (1 : Rat) ≠ 0; decide
section
variable {ns : List Str} {ts : List Tel} {i : Nat} {mk : Str → Str} {P : Str → Mv} {seen : Str → Prop} {t : Tel}
theorem LW.root (L : LW ns ts i mk P seen) (x : Str) : P x = rel P (mk x) x := by
  unfold rel
  rw [L.rt x]
  have : bck one2 = one2 := by
    have := thn_bck (p := one2) one_ne
    rwa [one_thn] at this
  rw [this, one_thn]
theorem LW.size (L : LW ns ts i mk P seen) (b : Bk ns ts) (hn : ns.length ≤ 16) (x : Str) : Qs 916 (P x).1 ∧ Qs 2761 (P x).2 := by
  by_cases hs : seen x
  · have j : Joined (zb1 ts i) (mk x) x := (take_joined_iff b.nd).mp ((L.jn _ _).mp (L.idm x))
    obtain ⟨vs, c, w⟩ := j.path
    have sub : ∀ t ∈ zb1 ts i, t ∈ ts := fun t ht => tieRows_mem (tieTake_sub b.nd ht)
    have l := w.short (L.sn _ (L.ms x hs)) (b.ends sub)
    have := w.size L.p0 L.ag fun t ht => ⟨(b.ok t (sub t ht)).a0, (b.ok t (sub t ht)).qa, (b.ok t (sub t ht)).qb⟩
    rw [L.root x]
    exact ⟨this.1.mono (by omega), this.2.mono (by omega)⟩
  · rw [(L.un x hs).2]
    exact ⟨q1.mono (by decide), q0.mono (by decide)⟩
theorem take_succ {i : Nat} {t : Tel} (hi : (zas ts)[i]? = some t) : (zas ts).take (i + 1) = (zas ts).take i ++ [t] := by rw [List.take_add_one, hi]; rfl
open Classical in
theorem tieTake_succ {i : Nat} {t : Tel} (hi : (zas ts)[i]? = some t) : zb1 ts (i + 1) = if IsTie ts t then zb1 ts i ++ [t] else zb1 ts i := by
  unfold zb1
  rw [take_succ hi, List.filter_append]
  by_cases h : IsTie ts t
  · simp [h]
  · simp [h]
theorem LW.same (L : LW ns ts i mk P seen) (nd : (ts.map Tel.name).Nodup) (hi : (zas ts)[i]? = some t) (e : mk t.st = mk t.en) : LW ns ts (i + 1) mk P seen := by
  have j := (L.jn _ _).mp e
  have nt : ¬ IsTie ts t := fun z => (tie_at nd hi).mp z j
  refine ⟨fun x y => ?_, L.idm, L.p0, fun u hu => ?_, L.rt, L.un, L.ms, L.sn⟩
  · rw [take_succ hi, L.jn]
    exact (joined_skip j).symm
  · rw [tieTake_succ hi, if_neg nt] at hu
    exact L.ag u hu
end
end Sb
namespace Sb
open PySem
theorem same_list {h : PH} {m n d : Nat} {l : List PV} (e1 : h[m]? = some (.lst l)) (e2 : h[n]? = some (.lst l)) (hl : l.length ≤ 1000000) (hs : ∀ x ∈ l, sameP h d x x) : sameP h (d + 1) (.ref m) (.ref n) := by
  unfold sameP
  refine ⟨l, l, e1, e2, rfl, hl, fun i x y hx hy => ?_⟩
  rw [hx] at hy
  cases hy
  exact hs x (List.mem_of_getElem? hx)
theorem same_tup {h : PH} {d : Nat} {l : List PV} (hl : l.length ≤ 1000000) (hs : ∀ x ∈ l, sameP h d x x) : sameP h (d + 1) (.tup l) (.tup l) := by
  unfold sameP
  refine ⟨rfl, hl, fun i x y hx hy => ?_⟩
  rw [hx] at hy
  cases hy
  exact hs x (List.mem_of_getElem? hx)
theorem same_str {h : PH} {d : Nat} (x : Str) : sameP h d (.str x) (.str x) := by unfold sameP; trivial
theorem same_bool {h : PH} {d : Nat} (x : Bool) : sameP h d (.bl x) (.bl x) := by unfold sameP; trivial
theorem Rows.size {ns : List Str} {ts : List Tel} {P : Str → Mv} (R : Rows ts (tieRows ts) P) (b : Bk ns ts) {s x : Str} (hs : s ∈ ns) (j : Joined (tieRows ts) s x) : Qs 1648 (rel P s x).1 ∧ Qs 4969 (rel P s x).2 := by
  obtain ⟨vs, c, w⟩ := j.path
  have l := w.short hs (b.ends fun t => tieRows_mem)
  have := w.size R.p0 R.ag fun t ht => R.qa t (R.sub t ht)
  have nl := b.nl
  exact ⟨this.1.mono (by omega), this.2.mono (by omega)⟩
end Sb
namespace Sb
open PySem
structure Sh (f : Tel → Tel) : Prop where
  name : ∀ t, (f t).name = t.name
  st : ∀ t, (f t).st = t.st
  en : ∀ t, (f t).en = t.en
  tr : ∀ t, (f t).tr = t.tr
section
variable {f : Tel → Tel} {ts : List Tel}
theorem Sh.le (s : Sh f) (a b : Tel) : leT (f a) (f b) = leT a b := by unfold leT Tel.key; rw [s.name, s.name, s.tr, s.tr]
theorem Sh.lt (s : Sh f) (a b : Tel) : ltT (f a) (f b) = ltT a b := by unfold ltT; rw [s.le]
theorem Sh.names (s : Sh f) : (ts.map f).map Tel.name = ts.map Tel.name := by rw [List.map_map]; exact List.map_congr_left fun t _ => s.name t
end
end Sb
namespace Sb
open PySem
theorem nin2 {n a b : Nat} (h1 : n ≠ a) (h2 : n ≠ b) : n ∉ [a, b] := by
  rw [List.mem_cons, List.mem_singleton]
  omega
theorem Bk.sub {ns : List Str} {ts us : List Tel} (b : Bk ns ts) (h : us.Sublist ts) : Bk ns us := ⟨(h.map Tel.name).nodup b.nd, fun t ht => b.ok t (h.mem ht), Nat.le_trans h.length_le b.len, b.nl⟩
end Sb
namespace Sb
open PySem
/-- a comprehension whose parts change nothing -/
theorem v_filt {α : Type} {C : Calls} {tg : List Nat} {one : TgK} {k : ITK} {its : List E} {cond : Option E} {own : List Nat} {a : E} {ρ : Env} {h h1 : PH} {Q : PV → PH → Prop} {l : List PV} {kp : Keep} (xs : List α) (f g : α → PV) (p : α → Bool) (e1 : evGs C its ρ h = .ok l h1) (e2 : walkF k l h1 = some (xs.map f, kp)) (hk : zbs kp h1) (hl : xs.length ≤ 1000000)
    (hs : ∀ x ∈ xs, ∃ ρ1, setTg (wipeP ρ own) tg one (f x) = some ρ1 ∧ evGc C cond ρ1 h1 = .ok (p x) h1 ∧ (p x = true → evG C a false ρ1 h1 = .ok (g x) h1))
    (hd : Q (.ref h1.length) (h1 ++ [.lst ((xs.filter p).map g)])) : (evG C (.comp a tg one k its cond own) false ρ h).Sat Q := by
  refine v_compE e1 e2 (fun i acc h' => h' = h1 ∧ acc = ((xs.take i).filter p).map g) ⟨rfl, by simp⟩ ?_ ?_
  · rintro i y acc h' hy ⟨rfl, rfl⟩
    rw [List.getElem?_map] at hy
    obtain ⟨u, hu, rfl⟩ := Option.map_eq_some_iff.mp hy
    have hi := (List.getElem?_eq_some_iff.mp hu).1
    obtain ⟨ρ1, h2, h3, h4⟩ := hs u (List.mem_of_getElem? hu)
    refine ⟨hk, ρ1, h2, ?_⟩
    have fl : ((xs.take i).filter p).length ≤ i := Nat.le_trans (List.length_filter_le ..) (by rw [List.length_take]; omega)
    rw [h3, sat_ok]
    cases hp : p u with
    | false =>
      rw [if_neg Bool.false_ne_true, List.take_add_one, hu]
      simp [List.filter_append, List.filter, hp]
    | true =>
      rw [if_pos rfl, h4 hp, sat_ok]
      refine ⟨zbp (by rw [List.length_map]; omega), rfl, ?_⟩
      rw [List.take_add_one, hu]
      simp [List.filter_append, List.filter, hp]
  · rintro acc h' ⟨rfl, rfl⟩
    have fl : ((xs.take xs.length).filter p).length ≤ xs.length := Nat.le_trans (List.length_filter_le ..) (by rw [List.length_take]; omega)
    simp only [List.length_map, List.take_length] at fl ⊢
    exact ⟨hk, zbp (by omega), hd⟩
@[simp] theorem fin_tb (b : Bool) (h : PH) : fin true (.ok (.bl b) h) = .ok (.bl b) h := rfl
@[simp] theorem asB_b (b : Bool) (h : PH) : asB (.ok (.bl b) h) = .ok b h := rfl
end Sb
namespace Sb
open PySem
theorem Path.used {rows : List Tel} {s x : Str} {vs : List Str} {c : List Step} (nd : (rows.map Tel.name).Nodup) (w : Path rows s vs c x) : (c.map (·.1)).Nodup ∧ (∀ t ∈ rows, t.name ∈ c.map (·.1) → t.st ∈ vs ∧ t.en ∈ vs) ∧ ∀ m ∈ c.map (·.1), m ∈ rows.map Tel.name := by
  induction w with
  | nil => simp
  | @snoc vs c y p w m n ih =>
    obtain ⟨i1, i2, i3⟩ := ih
    have key : ∃ t ∈ rows, p.1.1 = t.name ∧ ((t.st = y ∧ t.en = p.2) ∨ (t.en = y ∧ t.st = p.2)) := by
      obtain ⟨t, ht, ⟨rfl, hx⟩ | ⟨rfl, hx⟩⟩ := steps_mem m
      · exact ⟨t, ht, rfl, .inl ⟨hx, rfl⟩⟩
      · exact ⟨t, ht, rfl, .inr ⟨hx, rfl⟩⟩
    obtain ⟨t, ht, en, he⟩ := key
    have yv := w.vmem.1
    refine ⟨?_, fun u hu hm => ?_, fun z hz => ?_⟩
    · rw [List.map_append, List.nodup_append]
      refine ⟨i1, by simp, fun a ha b hb e => ?_⟩
      simp at hb
      rw [e, hb, en] at ha
      obtain ⟨h1, h2⟩ := i2 t ht ha
      rcases he with ⟨_, h⟩ | ⟨_, h⟩
      · exact n (by rw [← h]; exact h2)
      · exact n (by rw [← h]; exact h1)
    · rw [List.map_append] at hm
      rcases List.mem_append.mp hm with z | z
      · exact ⟨List.mem_append_left _ (i2 u hu z).1, List.mem_append_left _ (i2 u hu z).2⟩
      · simp at z
        have eu := tel_uniq nd ht hu (z.trans en)
        subst eu
        rcases he with ⟨h1, h2⟩ | ⟨h1, h2⟩
        · exact ⟨by rw [h1]; exact List.mem_append_left _ yv, by rw [h2]; simp⟩
        · exact ⟨by rw [h2]; simp, by rw [h1]; exact List.mem_append_left _ yv⟩
    · rw [List.map_append] at hz
      rcases List.mem_append.mp hz with q | q
      · exact i3 z q
      · simp at q
        rw [q, en]
        exact List.mem_map.mpr ⟨t, ht, rfl⟩
theorem Path.few {rows : List Tel} {s x : Str} {vs : List Str} {c : List Step} (nd : (rows.map Tel.name).Nodup) (w : Path rows s vs c x) : c.length ≤ rows.length := by
  have u := w.used nd
  have := nodup_len u.1 u.2.2
  simpa using this
end Sb
namespace Sb
open PySem
structure Kw (h : PH) (B : Nat) (L : List (Nat × PO)) : Prop where
  st : St h 2 0 1 B
  at_ : ∀ p ∈ L, h[p.1]? = some p.2
  nd : (L.map (·.1)).Nodup
  hi : ∀ p ∈ L, 3 ≤ p.1
section
variable {h h' : PH} {B B' n : Nat} {o o' : PO} {L : List (Nat × PO)}
theorem Kw.get (K : Kw h B L) (i : Nat) (e : L[i]? = some (n, o) := by rfl) : h[n]? = some o := K.at_ (n, o) (List.mem_of_getElem? e)
theorem Kw.mem_lt (K : Kw h B L) {p : Nat × PO} (m : p ∈ L) : p.1 < h.length := (List.getElem?_eq_some_iff.mp (K.at_ p m)).1
theorem Kw.frS (K : Kw h B L) (f : Fr [2, 0] h h') (st : St h' 2 0 1 B') : Kw h' B' L := ⟨st, fun p hp => f.some (by have := K.hi p hp; exact nin2 (by omega) (by omega)) (K.at_ p hp), K.nd, K.hi⟩
theorem Kw.fr (K : Kw h B L) (f : Fr [] h h') : Kw h' B L := K.frS (f.mono (by simp)) (K.st.frame f (by simp) (by simp) (by simp))
theorem Kw.len (K : Kw h B L) : 3 ≤ h.length := by
  have := K.st.lt
  omega
theorem Kw.fresh (K : Kw h B L) (hl : h.length ≤ n) : n ∉ L.map (·.1) := fun m => by
  obtain ⟨p, hp, rfl⟩ := List.mem_map.mp m
  have := K.mem_lt hp
  omega
theorem Kw.add (K : Kw h B L) (hn : n ∉ L.map (·.1)) (h3 : 3 ≤ n) (e : h[n]? = some o) : Kw h B ((n, o) :: L) := ⟨K.st, fun p hp => by
  rcases List.mem_cons.mp hp with rfl | hp
  · exact e
  · exact K.at_ p hp, by rw [List.map_cons]; exact List.nodup_cons.mpr ⟨hn, K.nd⟩, fun p hp => by
  rcases List.mem_cons.mp hp with rfl | hp
  · exact h3
  · exact K.hi p hp⟩
theorem Kw.new (K : Kw h B L) (f : Fr [] h h') (hl : h.length ≤ n) (e : h'[n]? = some o) : Kw h' B ((n, o) :: L) := (K.fr f).add (K.fresh hl) (by have := K.len; omega) e
theorem Kw.push (K : Kw h B L) (o : PO) : Kw (h ++ [o]) B ((h.length, o) :: L) := K.new Fr.app (Nat.le_refl _) (by simp)
theorem Kw.app (K : Kw h B L) (t : PH) : Kw (h ++ t) B L := K.fr Fr.app
theorem Kw.up (K : Kw h B L) (hb : B ≤ B') : Kw h B' L := ⟨K.st.up hb, K.at_, K.nd, K.hi⟩
theorem Kw.sub {L' : List (Nat × PO)} (K : Kw h B L) (s : L'.Sublist L) : Kw h B L' := ⟨K.st, fun p hp => K.at_ p (s.subset hp), (s.map _).nodup K.nd, fun p hp => K.hi p (s.subset hp)⟩
theorem Kw.set0 (K : Kw h B ((n, o) :: L)) (o' : PO) : Kw (h.set n o') B ((n, o') :: L) := by
  have g3 := K.hi (n, o) (by simp)
  refine ⟨K.st.setNew (by simp at g3; omega) (by simp at g3; omega) (by simp at g3; omega), fun p hp => ?_, K.nd, fun p hp => ?_⟩
  · rcases List.mem_cons.mp hp with rfl | hp
    · exact set_at (K.at_ (n, o) (by simp))
    · have := (List.nodup_cons.mp K.nd).1
      rw [set_ne' (fun z => this (List.mem_map.mpr ⟨p, hp, z.symm⟩))]
      exact K.at_ p (List.mem_cons_of_mem _ hp)
  · rcases List.mem_cons.mp hp with rfl | hp
    · exact g3
    · exact K.hi p (List.mem_cons_of_mem _ hp)
theorem Kw.perm {L' : List (Nat × PO)} (K : Kw h B L) (s : L.Perm L') : Kw h B L' := ⟨K.st, fun p hp => K.at_ p (s.mem_iff.mpr hp), (s.map _).nodup_iff.mp K.nd, fun p hp => K.hi p (s.mem_iff.mpr hp)⟩
theorem Kw.set {i : Nat} (K : Kw h B L) (e : L[i]? = some (n, o)) (o' : PO) : Kw (h.set n o') B (L.set i (n, o')) := by
  obtain ⟨hi, e1⟩ := List.getElem?_eq_some_iff.mp e
  have p1 : L.Perm ((n, o) :: L.eraseIdx i) := (perm_erase e).symm
  have K1 := (K.perm p1).set0 o'
  refine K1.perm ?_
  have : (L.set i (n, o'))[i]? = some (n, o') := by simp [hi]
  have p2 := perm_erase this
  rwa [List.eraseIdx_set_eq] at p2
end
section
variable {tbl : Nat → Fn} {h : PH} {k B : Nat} {L : List (Nat × PO)}
theorem kstart (h4 : tbl 4 = F_law_start) {ns : List Int} (hn : ns.length ≤ 63) {Q : PV → PH → Prop} (q : ∀ h', Kw h' 0 [] → h'.length = 3 → Q (.ref 2) h') : (call tbl (k + 1) 4 [.cl (ns.map PV.int)] []).Sat Q :=
  start_sat h4 (k := k) (h := []) hn fun h' st _ hl => q h' ⟨st, by simp, by simp, by simp⟩ (by simpa using hl)
end
end Sb
namespace Sb
open PySem
/-- what is found so far -/
structure RF (rows : List Tel) (s : Str) (h : PH) (d : Nat) (g : PH) (fs : List Str) : Prop where
  e : g[d]? = some (.lst (fs.map PV.str))
  nd : fs.Nodup
  s0 : s ∈ fs
  jn : ∀ x ∈ fs, Joined rows s x
  am : ∀ x ∈ fs, x = s ∨ x ∈ ends rows
  fr : Fr [] h g
section
variable {rows : List Tel} {s : Str} {h g : PH} {d : Nat} {fs : List Str}
theorem RF.len (Z : RF rows s h d g fs) : fs.length ≤ 2 * rows.length + 1 := by
  have := nodup_len Z.nd (B := s :: ends rows) fun x hx => by
    rcases Z.am x hx with rfl | z
    · simp
    · exact List.mem_cons_of_mem _ z
  rw [List.length_cons, ends_len] at this
  omega
theorem mem_ends {t : Tel} (m : t ∈ rows) : t.st ∈ ends rows ∧ t.en ∈ ends rows := by
  unfold ends
  constructor
  · exact List.mem_flatMap.mpr ⟨t, m, by simp⟩
  · exact List.mem_flatMap.mpr ⟨t, m, by simp⟩
theorem RF.add (Z : RF rows s h d g fs) (dl : h.length ≤ d) {y : Str} (hy : y ∉ fs) (j : Joined rows s y) (ye : y ∈ ends rows) : RF rows s h d (g.set d (.lst (fs.map PV.str ++ [.str y]))) (fs ++ [y]) :=
  ⟨by rw [set_at Z.e]; simp, List.nodup_append.mpr ⟨Z.nd, by simp, fun a ha b hb => by rw [List.mem_singleton.mp hb]; rintro rfl; exact hy ha⟩, List.mem_append_left _ Z.s0, fun x hx => by
    rcases List.mem_append.mp hx with q | q
    · exact Z.jn x q
    · rw [List.mem_singleton.mp q]; exact j, fun x hx => by
    rcases List.mem_append.mp hx with q | q
    · exact Z.am x q
    · rw [List.mem_singleton.mp q]; exact .inr ye, Z.fr.setNew dl⟩
theorem RF.done (Z : RF rows s h d g fs) (nd : (rows.map Tel.name).Nodup) (cp : ∀ y vs c, Path rows s vs c y → c.length ≤ rows.length → y ∈ fs) (x : Str) : x ∈ fs ↔ Joined rows s x :=
  ⟨Z.jn x, fun j => by
    obtain ⟨vs, c, w⟩ := j.path
    exact cp x vs c w (w.few nd)⟩
end
end Sb
namespace Sb
open PySem
theorem Joined.among {rows : List Tel} {s x : Str} (j : Joined rows s x) : x = s ∨ x ∈ ends rows := by
  cases j with
  | refl => exact .inl rfl
  | step m j e => exact .inr (mem_ends m).2
  | back m j e => exact .inr (mem_ends m).1
end Sb
namespace Sb
open PySem
section
variable {C : Calls} {ρ ρ1 : Env} {h h1 : PH} {N : Env → PH → Prop} {T : PV → PH → Prop} {b hs : List S} {c f : Str} {xs : List Str} {x : Exn} {i : Option Nat} {a : E} {t : Bool}
@[simp] theorem g_xat : evG C (.xat a f c) t ρ h = fin t ((evG C a false ρ h).bind fun x h1 => xatop x f c h1) := by rw [evG]
end
end Sb
namespace Sb
open PySem
theorem pd_ints {h : PH} {d : Nat} : ∀ l : List Int, mapO (pd h d) (l.map PV.int) = some (l.map PyData.int)
  | [] => rfl
  | a :: l => by
    have e : pd h d (.int a) = some (.int a) := by cases d <;> rfl
    rw [List.map_cons]
    unfold mapO
    rw [e, pd_ints l]
    rfl
theorem eqv_ints : ∀ l k : List Int, PyData.eqvAll (l.map PyData.int) (k.map PyData.int) = decide (l = k)
  | [], [] => by simp [PyData.eqvAll]
  | [], _ :: _ => by simp [PyData.eqvAll]
  | _ :: _, [] => by simp [PyData.eqvAll]
  | a :: l, b :: k => by
    simp only [List.map_cons, PyData.eqvAll, eqv_ints l k, PyData.eqv]
    by_cases h1 : a = b <;> by_cases h2 : l = k <;> simp [h1, h2]
theorem ne_ints {h : PH} {m n : Nat} {l k : List Int} (e1 : h[m]? = some (.lst (l.map PV.int))) (e2 : h[n]? = some (.lst (k.map PV.int))) : zbi .NotEq (.ref m) (.ref n) h = .ok (.bl (!decide (l = k))) h := by
  show ofO ((eqP h (.ref m) (.ref n)).map fun b => PV.bl (!b)) h = _
  have p1 : pd h 8 (.ref m) = some (.list (l.map PyData.int)) := by simp only [pd, e1, pd_ints]; rfl
  have p2 : pd h 8 (.ref n) = some (.list (k.map PyData.int)) := by simp only [pd, e2, pd_ints]; rfl
  simp only [eqP, p1, p2, PyData.eqv, eqv_ints]
  rfl
end Sb
namespace Sb
open PySem
def nmx : List (Str × List Str) := [("NotJoined", ["end", "start"]), ("Taken", ["name", "kind"]), ("NoSuch", ["name", "kind"]), ("InUse", ["name", "kind"]), ("Far", ["name", "kind"]), ("Clash", ["name", "kind"]), ("Vouched", ["name", "voucher"]), ("NotVouched", ["name", "voucher"]), ("NoBottom", ["top"]), ("NoTelling", ["name"]), ("NoTie", ["name"]), ("BadName", ["name"]), ("Full", ["kind"]), ("Flat", ["a"]), ("BadWeight", ["weight"]), ("SameScale", ["name"]), ("NotSheer", ["part"]), ("NoText", ["row"]), ("NoBook", ["name"]), ("NoLevel", []), ("NothingDone", []), ("NoLine", [])]
def nam (r : Nat) : Str := (nmx.getD r ("", [])).1
def mkx (r : Nat) (a b : PV) : PV := .exv (nam r) (nmx.getD r ("", [])).2 (if r < 8 then [b, a] else if r < 19 then [a] else [])
def fdx (r : Nat) (a b : PV) : List PV := if r < 8 then [a, b] else if r < 19 then [a] else []
theorem nam_in {r : Nat} (h : r < 22) : nam r ∈ excAll := by
  have : ∀ r : Fin 22, nam r.val ∈ excAll := by decide +kernel
  exact this ⟨r, h⟩
theorem nam_inj {r k : Nat} (h : r < 22) (hk : k < 22) : decide (nam r = nam k) = decide (k = r) := by
  have : ∀ r k : Fin 22, decide (nam r.val = nam k.val) = decide (k.val = r.val) := by decide +kernel
  exact this ⟨r, h⟩ ⟨k, hk⟩
theorem zam {r : Nat} {a b : PV} {c : Str} {h : PH} (hr : r < 22) (hc : c ∈ excAll) (hb : (decide (c = "BookError") || decide (c = "ValueError")) = false) : biF .isx [mkx r a b, .cls c] h = .ok (.bl (decide (nam r = c))) h := by
  have e : isX (nam r) c = some (decide (nam r = c)) := by
    unfold isX
    rw [if_pos ⟨nam_in hr, .inl hc⟩, Bool.or_assoc, hb, Bool.or_false]
  show (match isX (nam r) c with | some b => R.ok (PV.bl b) h | none => .no) = _
  rw [e]
theorem isx_up {r : Nat} {a b : PV} {c : Str} {h : PH} (hr : r < 22) (hc : c = "BookError" ∨ c = "ValueError") : biF .isx [mkx r a b, .cls c] h = .ok (.bl true) h := by
  have e : isX (nam r) c = some true := by
    unfold isX
    rw [if_pos ⟨nam_in hr, .inr hc⟩]
    rcases hc with rfl | rfl <;> simp
  show (match isX (nam r) c with | some b => R.ok (PV.bl b) h | none => .no) = _
  rw [e]
theorem za9 {x f : Str} {ns : List Str} {vs : List PV} {v : PV} {h : PH} (hx : x ∈ excAll) (hf : f ∈ xfAll) (hl : (ns.zip vs).lookup f = some v) : biF (.xatA f) [.exv x ns vs] h = .ok v h := by
  show (if x ∈ excAll ∧ f ∈ xfAll then ofO ((ns.zip vs).lookup f) h else .no) = _
  rw [if_pos ⟨hx, hf⟩, hl]
  rfl
section
variable {C : Calls} {ρ : Env} {h : PH} {N : Env → PH → Prop} {T : PV → PH → Prop} {es : List E} {vs l : List PV} {i m : Nat}
/-- a new list is named -/
theorem st_lst (e : ∀ h, evGs C es ρ h = .ok vs h) (hl : vs.length ≤ 1000000) (q : ∀ g n, Fr [] h g → h.length ≤ n → g[n]? = some (.lst vs) → N (ρ.set i (some (.ref n))) g) : (exS C (.asg (.nm i) (.lst es)) ρ h).Sat N T := by
  simp only [x_set, g_lst, fin_f, sat_bind, e, sat_ok]
  rw [zaf _ hl]
  exact q _ _ Fr.app (Nat.le_refl _) (by simp)
/-- a list is made longer -/
theorem st_add (hv : ρ.get i = some (.ref m)) (hm : h[m]? = some (.lst l)) (e : ∀ h, evGs C es ρ h = .ok vs h) (hl : l.length + vs.length ≤ 1000000) (q : ∀ g n, Fr [] h g → h.length ≤ n → g[n]? = some (.lst (l ++ vs)) → N (ρ.set i (some (.ref n))) g) : (exS C (.asg (.nm i) (.bin .Add (.var i) (.lst es))) ρ h).Sat N T := by
  simp only [x_set, g_bin, g_var, hv, ofO_some, R.bind_ok, g_lst, fin_f, e]
  rw [zaf _ (by omega)]
  simp only [R.bind_ok]
  rw [b_addL (m := m) (n := h.length) (l := l) (k := vs) ((Fr.app (S := [])).some (by simp) hm) (by simp) hl]
  exact q _ _ (Fr.app.trans Fr.app) (by simp) (by simp)
end
section
variable {tbl : Nat → Fn} {k r : Nat} {h : PH} {a b : PV} {Q : PV → PH → Prop}
theorem xm2 (x f g : Str) (a b : PV) (h : PH) : biF (.xmk x [f, g]) [a, b] h = .ok (.exv x [f, g] [b, a]) h := rfl
theorem xm1 (x f : Str) (a : PV) (h : PH) : biF (.xmk x [f]) [a] h = .ok (.exv x [f] [a]) h := rfl
theorem xm0 (x : Str) (a : PV) (h : PH) : biF (.xmk x []) [a] h = .ok (.exv x [] []) h := rfl
theorem at8 {r : Nat} {a b : PV} (hr : r < 8) : ([.exv "NotJoined" ["end", "start"] [b, a], .exv "Taken" ["name", "kind"] [b, a], .exv "NoSuch" ["name", "kind"] [b, a], .exv "InUse" ["name", "kind"] [b, a], .exv "Far" ["name", "kind"] [b, a], .exv "Clash" ["name", "kind"] [b, a], .exv "Vouched" ["name", "voucher"] [b, a], .exv "NotVouched" ["name", "voucher"] [b, a]] : List PV)[r]? = some (mkx r a b) := by
  match r, hr with
  | 0, _ => rfl
  | 1, _ => rfl
  | 2, _ => rfl
  | 3, _ => rfl
  | 4, _ => rfl
  | 5, _ => rfl
  | 6, _ => rfl
  | 7, _ => rfl
theorem at19 {r : Nat} {a b : PV} (hr : r < 11) : ([.exv "NoBottom" ["top"] [a], .exv "NoTelling" ["name"] [a], .exv "NoTie" ["name"] [a], .exv "BadName" ["name"] [a], .exv "Full" ["kind"] [a], .exv "Flat" ["a"] [a], .exv "BadWeight" ["weight"] [a], .exv "SameScale" ["name"] [a], .exv "NotSheer" ["part"] [a], .exv "NoText" ["row"] [a], .exv "NoBook" ["name"] [a]] : List PV)[r]? = some (mkx (r + 8) a b) := by
  match r, hr with
  | 0, _ => rfl
  | 1, _ => rfl
  | 2, _ => rfl
  | 3, _ => rfl
  | 4, _ => rfl
  | 5, _ => rfl
  | 6, _ => rfl
  | 7, _ => rfl
  | 8, _ => rfl
  | 9, _ => rfl
  | 10, _ => rfl
theorem at22 {r : Nat} {a b : PV} (hr : r < 3) : ([.exv "NoLevel" [] [], .exv "NothingDone" [] [], .exv "NoLine" [] []] : List PV)[r]? = some (mkx (r + 19) a b) := by
  match r, hr with
  | 0, _ => rfl
  | 1, _ => rfl
  | 2, _ => rfl
theorem fdx2 {r : Nat} {a b : PV} (hr : r < 8) : fdx r a b = [a, b] := by unfold fdx; rw [if_pos hr]
theorem fdx1 {r : Nat} {a b : PV} (h1 : ¬ r < 8) (h2 : r < 19) : fdx r a b = [a] := by unfold fdx; rw [if_neg h1, if_pos h2]
theorem fdx0 {r : Nat} {a b : PV} (h2 : ¬ r < 19) : fdx r a b = [] := by unfold fdx; rw [if_neg (by omega), if_neg h2]
theorem places_sat (h449 : tbl 449 = F_law_by_places) (hr : r < 22) (q : ∀ g n, Fr [] h g → h.length ≤ n → g[n]? = some (.lst (fdx r a b)) → Q (.tup [mkx r a b, .ref n]) g) : (call tbl (k + 1) 449 [.int (r : Int), a, b] h).Sat Q := by
  rw [zai, h449]
  refine zav rfl ?_
  simp only [F_law_by_places, zan, List.map, List.length, List.replicate, List.cons_append, List.nil_append]
  rw [zac]
  refine st_lst (vs := [.exv "NotJoined" ["end", "start"] [b, a], .exv "Taken" ["name", "kind"] [b, a], .exv "NoSuch" ["name", "kind"] [b, a], .exv "InUse" ["name", "kind"] [b, a], .exv "Far" ["name", "kind"] [b, a]]) (by intro h; simp [xm2]) (by simp) fun g1 n1 f1 l1 e1 => ?_
  simp only [List.set]
  rw [zac]
  refine st_add (m := n1) (vs := [.exv "Clash" ["name", "kind"] [b, a], .exv "Vouched" ["name", "voucher"] [b, a], .exv "NotVouched" ["name", "voucher"] [b, a]]) rfl e1 (by intro h; simp [xm2]) (by simp) fun g2 n2 f2 l2 e2 => ?_
  simp only [List.set]
  rw [zac]
  refine st_lst (vs := [.exv "NoBottom" ["top"] [a], .exv "NoTelling" ["name"] [a], .exv "NoTie" ["name"] [a], .exv "BadName" ["name"] [a], .exv "Full" ["kind"] [a], .exv "Flat" ["a"] [a], .exv "BadWeight" ["weight"] [a]]) (by intro h; simp [xm1]) (by simp) fun g3 n3 f3 l3 e3 => ?_
  simp only [List.set]
  rw [zac]
  refine st_add (m := n3) (vs := [.exv "SameScale" ["name"] [a], .exv "NotSheer" ["part"] [a], .exv "NoText" ["row"] [a], .exv "NoBook" ["name"] [a]]) rfl e3 (by intro h; simp [xm1]) (by simp) fun g4 n4 f4 l4 e4 => ?_
  simp only [List.set]
  rw [zac]
  refine st_lst (vs := [.exv "NoLevel" [] [], .exv "NothingDone" [] [], .exv "NoLine" [] []]) (by intro h; simp [xm0]) (by simp) fun g5 n5 f5 l5 e5 => ?_
  simp only [List.set]
  have ea := f5.some (by simp) (f4.some (by simp) (f3.some (by simp) e2))
  have eb := f5.some (by simp) e4
  have F := f1.trans (f2.trans (f3.trans (f4.trans f5)))
  simp only [List.cons_append, List.nil_append] at ea eb
  rw [zac]
  by_cases h8 : r < 8
  · have c : decide ((r : Int) < 8) = true := decide_eq_true (by omega)
    have ix := idx_ref (h := g5) (i := (r : Int)) ea (at_nat (at8 (a := a) (b := b) h8))
    simp [c, ix, zaf]
    exact q _ _ (F.trans Fr.app) F.len (by rw [fdx2 h8]; simp)
  · have c : decide ((r : Int) < 8) = false := decide_eq_false (by omega)
    simp [c]
    rw [zac]
    by_cases h19 : r < 19
    · have c : decide ((r : Int) < 19) = true := decide_eq_true (by omega)
      have es : ((r : Int) - 8) = ((r - 8 : Nat) : Int) := by omega
      have ex := at19 (r := r - 8) (a := a) (b := b) (by omega)
      rw [show r - 8 + 8 = r by omega] at ex
      have ix := idx_ref (h := g5) (i := ((r - 8 : Nat) : Int)) eb (at_nat ex)
      simp [c, es, ix, zaf]
      exact q _ _ (F.trans Fr.app) F.len (by rw [fdx1 h8 h19]; simp)
    · have c : decide ((r : Int) < 19) = false := decide_eq_false (by omega)
      have es : ((r : Int) - 19) = ((r - 19 : Nat) : Int) := by omega
      have ex := at22 (r := r - 19) (a := a) (b := b) (by omega)
      rw [show r - 19 + 19 = r by omega] at ex
      have ix := idx_ref (h := g5) (i := ((r - 19 : Nat) : Int)) e5 (at_nat ex)
      simp [c, es, ix, zaf]
      exact q _ _ (F.trans Fr.app) F.len (by rw [fdx0 h19]; simp)
theorem single_sat (h447 : tbl 447 = F_law_single) (h8 : ¬ r < 8) (hr : r < 19) (q : ∀ g n, Fr [] h g → g[n]? = some (.lst (fdx r a b)) → Q (.tup [mkx r a b, .ref n]) g) : (call tbl (k + 1) 447 [.int (r : Int), a] h).Sat Q := by
  rw [zai, h447]
  refine zav rfl ?_
  simp only [F_law_single, zan, List.map, List.length, List.replicate, List.cons_append, List.nil_append]
  rw [zac]
  refine st_lst (vs := [.exv "NoBottom" ["top"] [a], .exv "NoTelling" ["name"] [a], .exv "NoTie" ["name"] [a], .exv "BadName" ["name"] [a], .exv "Full" ["kind"] [a]]) (by intro h; simp [xm1]) (by simp) fun g1 n1 f1 l1 e1 => ?_
  simp only [List.set]
  rw [zac]
  refine st_add (m := n1) (vs := [.exv "Flat" ["a"] [a], .exv "BadWeight" ["weight"] [a], .exv "SameScale" ["name"] [a], .exv "NotSheer" ["part"] [a]]) rfl e1 (by intro h; simp [xm1]) (by simp) fun g2 n2 f2 l2 e2 => ?_
  simp only [List.set]
  rw [zac]
  refine st_add (m := n2) (vs := [.exv "NoText" ["row"] [a], .exv "NoBook" ["name"] [a]]) rfl e2 (by intro h; simp [xm1]) (by simp) fun g3 n3 f3 l3 e3 => ?_
  simp only [List.set]
  simp only [List.cons_append, List.nil_append] at e3
  have F := f1.trans (f2.trans f3)
  have es : ((r : Int) - 8) = ((r - 8 : Nat) : Int) := by omega
  have ex := at19 (r := r - 8) (a := a) (b := b) (by omega)
  rw [show r - 8 + 8 = r by omega] at ex
  have ix := idx_ref (h := g3) (i := ((r - 8 : Nat) : Int)) e3 (at_nat ex)
  simp [es, ix, zaf]
  exact q _ _ (F.trans Fr.app) (by rw [fdx1 h8 hr]; simp)
theorem names89_sat (h447 : tbl 447 = F_law_single) (h448 : tbl 448 = F_law_by_names) (hr : r < 19) (q : ∀ g n, Fr [] h g → g[n]? = some (.lst (fdx r a b)) → Q (.tup [mkx r a b, .ref n]) g) : (call tbl (k + 2) 448 [.int (r : Int), a, b] h).Sat Q := by
  rw [zai, h448]
  refine zav rfl ?_
  simp only [F_law_by_names, zan, List.map, List.length, List.replicate, List.cons_append, List.nil_append]
  by_cases h8 : r < 8
  · have hc : r = 0 ∨ r = 1 ∨ r = 2 ∨ r = 3 ∨ r = 4 ∨ r = 5 ∨ r = 6 ∨ r = 7 := by omega
    rcases hc with rfl | rfl | rfl | rfl | rfl | rfl | rfl | rfl
    · rw [zac]
      simp [xm2, zaf]
      exact q _ _ Fr.app (by simp [fdx])
    · rw [zac]; simp
      rw [zac]
      simp [xm2, zaf]
      exact q _ _ Fr.app (by simp [fdx])
    · rw [zac]; simp
      rw [zac]; simp
      rw [zac]
      simp [xm2, zaf]
      exact q _ _ Fr.app (by simp [fdx])
    · rw [zac]; simp
      rw [zac]; simp
      rw [zac]; simp
      rw [zac]
      simp [xm2, zaf]
      exact q _ _ Fr.app (by simp [fdx])
    · rw [zac]; simp
      rw [zac]; simp
      rw [zac]; simp
      rw [zac]; simp
      rw [zac]
      simp [xm2, zaf]
      exact q _ _ Fr.app (by simp [fdx])
    · rw [zac]; simp
      rw [zac]; simp
      rw [zac]; simp
      rw [zac]; simp
      rw [zac]; simp
      rw [zac]
      simp [xm2, zaf]
      exact q _ _ Fr.app (by simp [fdx])
    · rw [zac]; simp
      rw [zac]; simp
      rw [zac]; simp
      rw [zac]; simp
      rw [zac]; simp
      rw [zac]; simp
      rw [zac]
      simp [xm2, zaf]
      exact q _ _ Fr.app (by simp [fdx])
    · rw [zac]; simp
      rw [zac]; simp
      rw [zac]; simp
      rw [zac]; simp
      rw [zac]; simp
      rw [zac]; simp
      rw [zac]; simp
      rw [zac]
      simp [xm2, zaf]
      exact q _ _ Fr.app (by simp [fdx])
  · have hn : ∀ j : Nat, j < 8 → decide ((r : Int) = (j : Nat)) = false := fun j hj => decide_eq_false (by omega)
    have n0 : ¬ (r : Int) = 0 := by omega
    have m0 : ¬ r = 0 := by omega
    rw [zac]; simp [n0, m0]
    have n1 : ¬ (r : Int) = 1 := by omega
    have m1 : ¬ r = 1 := by omega
    rw [zac]; simp [n1, m1]
    have n2 : ¬ (r : Int) = 2 := by omega
    have m2 : ¬ r = 2 := by omega
    rw [zac]; simp [n2, m2]
    have n3 : ¬ (r : Int) = 3 := by omega
    have m3 : ¬ r = 3 := by omega
    rw [zac]; simp [n3, m3]
    have n4 : ¬ (r : Int) = 4 := by omega
    have m4 : ¬ r = 4 := by omega
    rw [zac]; simp [n4, m4]
    have n5 : ¬ (r : Int) = 5 := by omega
    have m5 : ¬ r = 5 := by omega
    rw [zac]; simp [n5, m5]
    have n6 : ¬ (r : Int) = 6 := by omega
    have m6 : ¬ r = 6 := by omega
    rw [zac]; simp [n6, m6]
    have n7 : ¬ (r : Int) = 7 := by omega
    have m7 : ¬ r = 7 := by omega
    rw [zac]; simp [n7, m7]
    try rw [x_one]
    try simp
    exact single_sat h447 h8 hr q
theorem alone_sat (h77 : tbl 77 = F_law_alone) (hr : r < 22) (q : ∀ g, Fr [] h g → Q (.bl true) g) : (call tbl (k + 1) 77 [mkx r a b] h).Sat Q := by
  have i_NoBottom : ∀ h : PH, biF .isx [mkx r a b, .cls "NoBottom"] h = .ok (.bl (decide (nam r = "NoBottom"))) h := fun h => zam hr (by decide +kernel) (by decide +kernel)
  have i_NotJoined : ∀ h : PH, biF .isx [mkx r a b, .cls "NotJoined"] h = .ok (.bl (decide (nam r = "NotJoined"))) h := fun h => zam hr (by decide +kernel) (by decide +kernel)
  have i_NoTelling : ∀ h : PH, biF .isx [mkx r a b, .cls "NoTelling"] h = .ok (.bl (decide (nam r = "NoTelling"))) h := fun h => zam hr (by decide +kernel) (by decide +kernel)
  have i_NoTie : ∀ h : PH, biF .isx [mkx r a b, .cls "NoTie"] h = .ok (.bl (decide (nam r = "NoTie"))) h := fun h => zam hr (by decide +kernel) (by decide +kernel)
  have i_BadName : ∀ h : PH, biF .isx [mkx r a b, .cls "BadName"] h = .ok (.bl (decide (nam r = "BadName"))) h := fun h => zam hr (by decide +kernel) (by decide +kernel)
  have i_Taken : ∀ h : PH, biF .isx [mkx r a b, .cls "Taken"] h = .ok (.bl (decide (nam r = "Taken"))) h := fun h => zam hr (by decide +kernel) (by decide +kernel)
  have i_NoSuch : ∀ h : PH, biF .isx [mkx r a b, .cls "NoSuch"] h = .ok (.bl (decide (nam r = "NoSuch"))) h := fun h => zam hr (by decide +kernel) (by decide +kernel)
  have i_InUse : ∀ h : PH, biF .isx [mkx r a b, .cls "InUse"] h = .ok (.bl (decide (nam r = "InUse"))) h := fun h => zam hr (by decide +kernel) (by decide +kernel)
  have i_Full : ∀ h : PH, biF .isx [mkx r a b, .cls "Full"] h = .ok (.bl (decide (nam r = "Full"))) h := fun h => zam hr (by decide +kernel) (by decide +kernel)
  have i_Far : ∀ h : PH, biF .isx [mkx r a b, .cls "Far"] h = .ok (.bl (decide (nam r = "Far"))) h := fun h => zam hr (by decide +kernel) (by decide +kernel)
  have i_Flat : ∀ h : PH, biF .isx [mkx r a b, .cls "Flat"] h = .ok (.bl (decide (nam r = "Flat"))) h := fun h => zam hr (by decide +kernel) (by decide +kernel)
  have i_BadWeight : ∀ h : PH, biF .isx [mkx r a b, .cls "BadWeight"] h = .ok (.bl (decide (nam r = "BadWeight"))) h := fun h => zam hr (by decide +kernel) (by decide +kernel)
  have i_SameScale : ∀ h : PH, biF .isx [mkx r a b, .cls "SameScale"] h = .ok (.bl (decide (nam r = "SameScale"))) h := fun h => zam hr (by decide +kernel) (by decide +kernel)
  have i_Vouched : ∀ h : PH, biF .isx [mkx r a b, .cls "Vouched"] h = .ok (.bl (decide (nam r = "Vouched"))) h := fun h => zam hr (by decide +kernel) (by decide +kernel)
  have i_NotVouched : ∀ h : PH, biF .isx [mkx r a b, .cls "NotVouched"] h = .ok (.bl (decide (nam r = "NotVouched"))) h := fun h => zam hr (by decide +kernel) (by decide +kernel)
  have i_NotSheer : ∀ h : PH, biF .isx [mkx r a b, .cls "NotSheer"] h = .ok (.bl (decide (nam r = "NotSheer"))) h := fun h => zam hr (by decide +kernel) (by decide +kernel)
  have i_Clash : ∀ h : PH, biF .isx [mkx r a b, .cls "Clash"] h = .ok (.bl (decide (nam r = "Clash"))) h := fun h => zam hr (by decide +kernel) (by decide +kernel)
  have i_NoText : ∀ h : PH, biF .isx [mkx r a b, .cls "NoText"] h = .ok (.bl (decide (nam r = "NoText"))) h := fun h => zam hr (by decide +kernel) (by decide +kernel)
  have i_NoBook : ∀ h : PH, biF .isx [mkx r a b, .cls "NoBook"] h = .ok (.bl (decide (nam r = "NoBook"))) h := fun h => zam hr (by decide +kernel) (by decide +kernel)
  have i_NoLevel : ∀ h : PH, biF .isx [mkx r a b, .cls "NoLevel"] h = .ok (.bl (decide (nam r = "NoLevel"))) h := fun h => zam hr (by decide +kernel) (by decide +kernel)
  have i_NothingDone : ∀ h : PH, biF .isx [mkx r a b, .cls "NothingDone"] h = .ok (.bl (decide (nam r = "NothingDone"))) h := fun h => zam hr (by decide +kernel) (by decide +kernel)
  have i_NoLine : ∀ h : PH, biF .isx [mkx r a b, .cls "NoLine"] h = .ok (.bl (decide (nam r = "NoLine"))) h := fun h => zam hr (by decide +kernel) (by decide +kernel)
  have i_BookError : ∀ h : PH, biF .isx [mkx r a b, .cls "BookError"] h = .ok (.bl true) h := fun h => isx_up hr (.inl rfl)
  have i_ValueError : ∀ h : PH, biF .isx [mkx r a b, .cls "ValueError"] h = .ok (.bl true) h := fun h => isx_up hr (.inr rfl)
  have cnt : ([decide (nam r = "NoBottom"), decide (nam r = "NotJoined"), decide (nam r = "NoTelling"), decide (nam r = "NoTie"), decide (nam r = "BadName"), decide (nam r = "Taken"), decide (nam r = "NoSuch"), decide (nam r = "InUse"), decide (nam r = "Full"), decide (nam r = "Far"), decide (nam r = "Flat"), decide (nam r = "BadWeight"), decide (nam r = "SameScale"), decide (nam r = "Vouched"), decide (nam r = "NotVouched"), decide (nam r = "NotSheer"), decide (nam r = "Clash"), decide (nam r = "NoText"), decide (nam r = "NoBook"), decide (nam r = "NoLevel"), decide (nam r = "NothingDone"), decide (nam r = "NoLine")] : List Bool).countP (fun c => c == true) = 1 := by
    have : ∀ r : Fin 22, ([decide (nam r.val = "NoBottom"), decide (nam r.val = "NotJoined"), decide (nam r.val = "NoTelling"), decide (nam r.val = "NoTie"), decide (nam r.val = "BadName"), decide (nam r.val = "Taken"), decide (nam r.val = "NoSuch"), decide (nam r.val = "InUse"), decide (nam r.val = "Full"), decide (nam r.val = "Far"), decide (nam r.val = "Flat"), decide (nam r.val = "BadWeight"), decide (nam r.val = "SameScale"), decide (nam r.val = "Vouched"), decide (nam r.val = "NotVouched"), decide (nam r.val = "NotSheer"), decide (nam r.val = "Clash"), decide (nam r.val = "NoText"), decide (nam r.val = "NoBook"), decide (nam r.val = "NoLevel"), decide (nam r.val = "NothingDone"), decide (nam r.val = "NoLine")] : List Bool).countP (fun c => c == true) = 1 := by decide +kernel
    exact this ⟨r, hr⟩
  rw [zai, h77]
  refine zav rfl ?_
  simp only [F_law_alone, zan, List.map, List.length, List.replicate, List.cons_append, List.nil_append]
  rw [zac]
  refine st_lst (vs := [.bl (decide (nam r = "NoBottom")), .bl (decide (nam r = "NotJoined")), .bl (decide (nam r = "NoTelling")), .bl (decide (nam r = "NoTie"))]) (by intro h; simp [i_NoBottom, i_NotJoined, i_NoTelling, i_NoTie]) (by simp) fun g1 n1 f1 l1 e1 => ?_
  simp only [List.set]
  rw [zac]
  refine st_add (m := n1) (vs := [.bl (decide (nam r = "BadName")), .bl (decide (nam r = "Taken")), .bl (decide (nam r = "NoSuch")), .bl (decide (nam r = "InUse"))]) rfl e1 (by intro h; simp [i_BadName, i_Taken, i_NoSuch, i_InUse]) (by simp) fun g2 n2 f2 l2 e2 => ?_
  simp only [List.set]
  simp only [List.cons_append, List.nil_append] at e2
  rw [zac]
  refine st_add (m := n2) (vs := [.bl (decide (nam r = "Full")), .bl (decide (nam r = "Far")), .bl (decide (nam r = "Flat")), .bl (decide (nam r = "BadWeight"))]) rfl e2 (by intro h; simp [i_Full, i_Far, i_Flat, i_BadWeight]) (by simp) fun g3 n3 f3 l3 e3 => ?_
  simp only [List.set]
  simp only [List.cons_append, List.nil_append] at e3
  rw [zac]
  refine st_add (m := n3) (vs := [.bl (decide (nam r = "SameScale")), .bl (decide (nam r = "Vouched")), .bl (decide (nam r = "NotVouched"))]) rfl e3 (by intro h; simp [i_SameScale, i_Vouched, i_NotVouched]) (by simp) fun g4 n4 f4 l4 e4 => ?_
  simp only [List.set]
  simp only [List.cons_append, List.nil_append] at e4
  rw [zac]
  refine st_add (m := n4) (vs := [.bl (decide (nam r = "NotSheer")), .bl (decide (nam r = "Clash")), .bl (decide (nam r = "NoText")), .bl (decide (nam r = "NoBook"))]) rfl e4 (by intro h; simp [i_NotSheer, i_Clash, i_NoText, i_NoBook]) (by simp) fun g5 n5 f5 l5 e5 => ?_
  simp only [List.set]
  simp only [List.cons_append, List.nil_append] at e5
  rw [zac]
  refine st_add (m := n5) (vs := [.bl (decide (nam r = "NoLevel")), .bl (decide (nam r = "NothingDone")), .bl (decide (nam r = "NoLine"))]) rfl e5 (by intro h; simp [i_NoLevel, i_NothingDone, i_NoLine]) (by simp) fun g6 n6 f6 l6 e6 => ?_
  simp only [List.set]
  simp only [List.cons_append, List.nil_append] at e6
  have F := f1.trans (f2.trans (f3.trans (f4.trans (f5.trans f6))))
  have ct : mtF .count (.ref n6) [.bl true] g6 = .ok (.int 1) g6 := by
    simp only [mtF, mtCount, e6, boolsOf, Option.map_some]
    rw [cnt]
    rfl
  rw [x_one]
  simp [ty_ref e6, MT.ty, ct, i_BookError, i_ValueError]
  exact q _ F
theorem mine_sat (h144 : tbl 144 = F_law_mine) (hr : r < 22) (q : ∀ g n, Fr [] h g → g[n]? = some (.lst [.int (r : Int)]) → Q (.ref n) g) : (call tbl (k + 1) 144 [mkx r a b] h).Sat Q := by
  have i_NoBottom : ∀ h : PH, biF .isx [mkx r a b, .cls "NoBottom"] h = .ok (.bl (decide (nam r = "NoBottom"))) h := fun h => zam hr (by decide +kernel) (by decide +kernel)
  have i_NotJoined : ∀ h : PH, biF .isx [mkx r a b, .cls "NotJoined"] h = .ok (.bl (decide (nam r = "NotJoined"))) h := fun h => zam hr (by decide +kernel) (by decide +kernel)
  have i_NoTelling : ∀ h : PH, biF .isx [mkx r a b, .cls "NoTelling"] h = .ok (.bl (decide (nam r = "NoTelling"))) h := fun h => zam hr (by decide +kernel) (by decide +kernel)
  have i_NoTie : ∀ h : PH, biF .isx [mkx r a b, .cls "NoTie"] h = .ok (.bl (decide (nam r = "NoTie"))) h := fun h => zam hr (by decide +kernel) (by decide +kernel)
  have i_BadName : ∀ h : PH, biF .isx [mkx r a b, .cls "BadName"] h = .ok (.bl (decide (nam r = "BadName"))) h := fun h => zam hr (by decide +kernel) (by decide +kernel)
  have i_Taken : ∀ h : PH, biF .isx [mkx r a b, .cls "Taken"] h = .ok (.bl (decide (nam r = "Taken"))) h := fun h => zam hr (by decide +kernel) (by decide +kernel)
  have i_NoSuch : ∀ h : PH, biF .isx [mkx r a b, .cls "NoSuch"] h = .ok (.bl (decide (nam r = "NoSuch"))) h := fun h => zam hr (by decide +kernel) (by decide +kernel)
  have i_InUse : ∀ h : PH, biF .isx [mkx r a b, .cls "InUse"] h = .ok (.bl (decide (nam r = "InUse"))) h := fun h => zam hr (by decide +kernel) (by decide +kernel)
  have i_Full : ∀ h : PH, biF .isx [mkx r a b, .cls "Full"] h = .ok (.bl (decide (nam r = "Full"))) h := fun h => zam hr (by decide +kernel) (by decide +kernel)
  have i_Far : ∀ h : PH, biF .isx [mkx r a b, .cls "Far"] h = .ok (.bl (decide (nam r = "Far"))) h := fun h => zam hr (by decide +kernel) (by decide +kernel)
  have i_Flat : ∀ h : PH, biF .isx [mkx r a b, .cls "Flat"] h = .ok (.bl (decide (nam r = "Flat"))) h := fun h => zam hr (by decide +kernel) (by decide +kernel)
  have i_BadWeight : ∀ h : PH, biF .isx [mkx r a b, .cls "BadWeight"] h = .ok (.bl (decide (nam r = "BadWeight"))) h := fun h => zam hr (by decide +kernel) (by decide +kernel)
  have i_SameScale : ∀ h : PH, biF .isx [mkx r a b, .cls "SameScale"] h = .ok (.bl (decide (nam r = "SameScale"))) h := fun h => zam hr (by decide +kernel) (by decide +kernel)
  have i_Vouched : ∀ h : PH, biF .isx [mkx r a b, .cls "Vouched"] h = .ok (.bl (decide (nam r = "Vouched"))) h := fun h => zam hr (by decide +kernel) (by decide +kernel)
  have i_NotVouched : ∀ h : PH, biF .isx [mkx r a b, .cls "NotVouched"] h = .ok (.bl (decide (nam r = "NotVouched"))) h := fun h => zam hr (by decide +kernel) (by decide +kernel)
  have i_NotSheer : ∀ h : PH, biF .isx [mkx r a b, .cls "NotSheer"] h = .ok (.bl (decide (nam r = "NotSheer"))) h := fun h => zam hr (by decide +kernel) (by decide +kernel)
  have i_Clash : ∀ h : PH, biF .isx [mkx r a b, .cls "Clash"] h = .ok (.bl (decide (nam r = "Clash"))) h := fun h => zam hr (by decide +kernel) (by decide +kernel)
  have i_NoText : ∀ h : PH, biF .isx [mkx r a b, .cls "NoText"] h = .ok (.bl (decide (nam r = "NoText"))) h := fun h => zam hr (by decide +kernel) (by decide +kernel)
  have i_NoBook : ∀ h : PH, biF .isx [mkx r a b, .cls "NoBook"] h = .ok (.bl (decide (nam r = "NoBook"))) h := fun h => zam hr (by decide +kernel) (by decide +kernel)
  have i_NoLevel : ∀ h : PH, biF .isx [mkx r a b, .cls "NoLevel"] h = .ok (.bl (decide (nam r = "NoLevel"))) h := fun h => zam hr (by decide +kernel) (by decide +kernel)
  have i_NothingDone : ∀ h : PH, biF .isx [mkx r a b, .cls "NothingDone"] h = .ok (.bl (decide (nam r = "NothingDone"))) h := fun h => zam hr (by decide +kernel) (by decide +kernel)
  have i_NoLine : ∀ h : PH, biF .isx [mkx r a b, .cls "NoLine"] h = .ok (.bl (decide (nam r = "NoLine"))) h := fun h => zam hr (by decide +kernel) (by decide +kernel)
  rw [zai, h144]
  refine zav rfl ?_
  simp only [F_law_mine, zan, List.map, List.length, List.replicate, List.cons_append, List.nil_append]
  rw [zac]
  refine st_lst (vs := [.bl (decide (nam r = "NotJoined")), .bl (decide (nam r = "Taken")), .bl (decide (nam r = "NoSuch")), .bl (decide (nam r = "InUse"))]) (by intro h; simp [i_NotJoined, i_Taken, i_NoSuch, i_InUse]) (by simp) fun g1 n1 f1 l1 e1 => ?_
  simp only [List.set]
  rw [zac]
  refine st_add (m := n1) (vs := [.bl (decide (nam r = "Far")), .bl (decide (nam r = "Clash")), .bl (decide (nam r = "Vouched")), .bl (decide (nam r = "NotVouched"))]) rfl e1 (by intro h; simp [i_Far, i_Clash, i_Vouched, i_NotVouched]) (by simp) fun g2 n2 f2 l2 e2 => ?_
  simp only [List.set]
  simp only [List.cons_append, List.nil_append] at e2
  rw [zac]
  refine st_add (m := n2) (vs := [.bl (decide (nam r = "NoBottom")), .bl (decide (nam r = "NoTelling")), .bl (decide (nam r = "NoTie")), .bl (decide (nam r = "BadName"))]) rfl e2 (by intro h; simp [i_NoBottom, i_NoTelling, i_NoTie, i_BadName]) (by simp) fun g3 n3 f3 l3 e3 => ?_
  simp only [List.set]
  simp only [List.cons_append, List.nil_append] at e3
  rw [zac]
  refine st_add (m := n3) (vs := [.bl (decide (nam r = "Full")), .bl (decide (nam r = "Flat")), .bl (decide (nam r = "BadWeight")), .bl (decide (nam r = "SameScale"))]) rfl e3 (by intro h; simp [i_Full, i_Flat, i_BadWeight, i_SameScale]) (by simp) fun g4 n4 f4 l4 e4 => ?_
  simp only [List.set]
  simp only [List.cons_append, List.nil_append] at e4
  rw [zac]
  refine st_add (m := n4) (vs := [.bl (decide (nam r = "NotSheer")), .bl (decide (nam r = "NoText")), .bl (decide (nam r = "NoBook")), .bl (decide (nam r = "NoLevel"))]) rfl e4 (by intro h; simp [i_NotSheer, i_NoText, i_NoBook, i_NoLevel]) (by simp) fun g5 n5 f5 l5 e5 => ?_
  simp only [List.set]
  simp only [List.cons_append, List.nil_append] at e5
  rw [zac]
  refine st_add (m := n5) (vs := [.bl (decide (nam r = "NothingDone")), .bl (decide (nam r = "NoLine"))]) rfl e5 (by intro h; simp [i_NothingDone, i_NoLine]) (by simp) fun g6 n6 f6 l6 e6 => ?_
  simp only [List.set]
  simp only [List.cons_append, List.nil_append] at e6
  have F := f1.trans (f2.trans (f3.trans (f4.trans (f5.trans f6))))
  have ee : ([.bl (decide (nam r = "NotJoined")), .bl (decide (nam r = "Taken")), .bl (decide (nam r = "NoSuch")), .bl (decide (nam r = "InUse")), .bl (decide (nam r = "Far")), .bl (decide (nam r = "Clash")), .bl (decide (nam r = "Vouched")), .bl (decide (nam r = "NotVouched")), .bl (decide (nam r = "NoBottom")), .bl (decide (nam r = "NoTelling")), .bl (decide (nam r = "NoTie")), .bl (decide (nam r = "BadName")), .bl (decide (nam r = "Full")), .bl (decide (nam r = "Flat")), .bl (decide (nam r = "BadWeight")), .bl (decide (nam r = "SameScale")), .bl (decide (nam r = "NotSheer")), .bl (decide (nam r = "NoText")), .bl (decide (nam r = "NoBook")), .bl (decide (nam r = "NoLevel")), .bl (decide (nam r = "NothingDone")), .bl (decide (nam r = "NoLine"))] : List PV) = (List.range 22).map fun k => .bl (decide (nam r = nam k)) := rfl
  rw [ee] at e6
  rw [x_one]
  simp only [x_ret]
  refine v_filt (List.range 22) (fun n => .int (n : Int)) (fun n => .int (n : Int)) (fun n => decide (n = r)) (l := [.int 22]) (h1 := g6) (kp := []) (by simp) rfl (fun p hp => by cases hp) (by simp) (fun n hn => ⟨_, rfl, ?_, fun _ => by simp [wipeP]⟩) ?_
  · have hn' : n < 22 := List.mem_range.mp hn
    have ix := idx_ref (h := g6) (i := (n : Int)) e6 (at_nat (v := .bl (decide (nam r = nam n))) (by rw [List.getElem?_map, List.getElem?_range hn']; rfl))
    rw [nam_inj hr hn'] at ix
    simp [wipeP, ix]
  · refine q _ _ (F.trans Fr.app) ?_
    have : ((List.range 22).filter fun n => decide (n = r)) = [r] := by
      have : ∀ r : Fin 22, ((List.range 22).filter fun n => decide (n = r.val)) = [r.val] := by decide +kernel
      exact this ⟨r, hr⟩
    rw [this]
    simp
theorem fields_0 (h450 : tbl 450 = F_law_fields) (q : ∀ g n, Fr [] h g → g[n]? = some (.lst (fdx 0 a b)) → Q (.ref n) g) : (call tbl (k + 1) 450 [mkx 0 a b, .int 0] h).Sat Q := by
  have x_start : ∀ g : PH, biF (.xatA "start") [mkx 0 a b] g = .ok a g := fun g => za9 (by decide +kernel) (by decide +kernel) rfl
  have x_end : ∀ g : PH, biF (.xatA "end") [mkx 0 a b] g = .ok b g := fun g => za9 (by decide +kernel) (by decide +kernel) rfl
  rw [zai, h450]
  refine zav rfl ?_
  simp only [F_law_fields, zan, List.map, List.length, List.replicate, List.cons_append, List.nil_append]

  rw [zac]; simp [x_start, x_end, zaf]
  exact q _ _ Fr.app (by simp [fdx])
theorem fields_1 (h450 : tbl 450 = F_law_fields) (q : ∀ g n, Fr [] h g → g[n]? = some (.lst (fdx 1 a b)) → Q (.ref n) g) : (call tbl (k + 1) 450 [mkx 1 a b, .int 1] h).Sat Q := by
  have x_kind : ∀ g : PH, biF (.xatA "kind") [mkx 1 a b] g = .ok a g := fun g => za9 (by decide +kernel) (by decide +kernel) rfl
  have x_name : ∀ g : PH, biF (.xatA "name") [mkx 1 a b] g = .ok b g := fun g => za9 (by decide +kernel) (by decide +kernel) rfl
  rw [zai, h450]
  refine zav rfl ?_
  simp only [F_law_fields, zan, List.map, List.length, List.replicate, List.cons_append, List.nil_append]
  rw [zac]; simp
  rw [zac]; simp [x_kind, x_name, zaf]
  exact q _ _ Fr.app (by simp [fdx])
theorem fields_2 (h450 : tbl 450 = F_law_fields) (q : ∀ g n, Fr [] h g → g[n]? = some (.lst (fdx 2 a b)) → Q (.ref n) g) : (call tbl (k + 1) 450 [mkx 2 a b, .int 2] h).Sat Q := by
  have x_kind : ∀ g : PH, biF (.xatA "kind") [mkx 2 a b] g = .ok a g := fun g => za9 (by decide +kernel) (by decide +kernel) rfl
  have x_name : ∀ g : PH, biF (.xatA "name") [mkx 2 a b] g = .ok b g := fun g => za9 (by decide +kernel) (by decide +kernel) rfl
  rw [zai, h450]
  refine zav rfl ?_
  simp only [F_law_fields, zan, List.map, List.length, List.replicate, List.cons_append, List.nil_append]
  rw [zac]; simp
  rw [zac]; simp [x_kind, x_name, zaf]
  exact q _ _ Fr.app (by simp [fdx])
theorem fields_3 (h450 : tbl 450 = F_law_fields) (q : ∀ g n, Fr [] h g → g[n]? = some (.lst (fdx 3 a b)) → Q (.ref n) g) : (call tbl (k + 1) 450 [mkx 3 a b, .int 3] h).Sat Q := by
  have x_kind : ∀ g : PH, biF (.xatA "kind") [mkx 3 a b] g = .ok a g := fun g => za9 (by decide +kernel) (by decide +kernel) rfl
  have x_name : ∀ g : PH, biF (.xatA "name") [mkx 3 a b] g = .ok b g := fun g => za9 (by decide +kernel) (by decide +kernel) rfl
  rw [zai, h450]
  refine zav rfl ?_
  simp only [F_law_fields, zan, List.map, List.length, List.replicate, List.cons_append, List.nil_append]
  rw [zac]; simp
  rw [zac]; simp [x_kind, x_name, zaf]
  exact q _ _ Fr.app (by simp [fdx])
theorem fields_4 (h450 : tbl 450 = F_law_fields) (q : ∀ g n, Fr [] h g → g[n]? = some (.lst (fdx 4 a b)) → Q (.ref n) g) : (call tbl (k + 1) 450 [mkx 4 a b, .int 4] h).Sat Q := by
  have x_kind : ∀ g : PH, biF (.xatA "kind") [mkx 4 a b] g = .ok a g := fun g => za9 (by decide +kernel) (by decide +kernel) rfl
  have x_name : ∀ g : PH, biF (.xatA "name") [mkx 4 a b] g = .ok b g := fun g => za9 (by decide +kernel) (by decide +kernel) rfl
  rw [zai, h450]
  refine zav rfl ?_
  simp only [F_law_fields, zan, List.map, List.length, List.replicate, List.cons_append, List.nil_append]
  rw [zac]; simp
  rw [zac]; simp [x_kind, x_name, zaf]
  exact q _ _ Fr.app (by simp [fdx])
theorem fields_5 (h450 : tbl 450 = F_law_fields) (q : ∀ g n, Fr [] h g → g[n]? = some (.lst (fdx 5 a b)) → Q (.ref n) g) : (call tbl (k + 1) 450 [mkx 5 a b, .int 5] h).Sat Q := by
  have x_kind : ∀ g : PH, biF (.xatA "kind") [mkx 5 a b] g = .ok a g := fun g => za9 (by decide +kernel) (by decide +kernel) rfl
  have x_name : ∀ g : PH, biF (.xatA "name") [mkx 5 a b] g = .ok b g := fun g => za9 (by decide +kernel) (by decide +kernel) rfl
  rw [zai, h450]
  refine zav rfl ?_
  simp only [F_law_fields, zan, List.map, List.length, List.replicate, List.cons_append, List.nil_append]
  rw [zac]; simp
  rw [zac]; simp [x_kind, x_name, zaf]
  exact q _ _ Fr.app (by simp [fdx])
theorem fields_6 (h450 : tbl 450 = F_law_fields) (q : ∀ g n, Fr [] h g → g[n]? = some (.lst (fdx 6 a b)) → Q (.ref n) g) : (call tbl (k + 1) 450 [mkx 6 a b, .int 6] h).Sat Q := by
  have x_voucher : ∀ g : PH, biF (.xatA "voucher") [mkx 6 a b] g = .ok a g := fun g => za9 (by decide +kernel) (by decide +kernel) rfl
  have x_name : ∀ g : PH, biF (.xatA "name") [mkx 6 a b] g = .ok b g := fun g => za9 (by decide +kernel) (by decide +kernel) rfl
  rw [zai, h450]
  refine zav rfl ?_
  simp only [F_law_fields, zan, List.map, List.length, List.replicate, List.cons_append, List.nil_append]
  rw [zac]; simp
  rw [zac]; simp
  rw [zac]; simp [x_voucher, x_name, zaf]
  exact q _ _ Fr.app (by simp [fdx])
theorem fields_7 (h450 : tbl 450 = F_law_fields) (q : ∀ g n, Fr [] h g → g[n]? = some (.lst (fdx 7 a b)) → Q (.ref n) g) : (call tbl (k + 1) 450 [mkx 7 a b, .int 7] h).Sat Q := by
  have x_voucher : ∀ g : PH, biF (.xatA "voucher") [mkx 7 a b] g = .ok a g := fun g => za9 (by decide +kernel) (by decide +kernel) rfl
  have x_name : ∀ g : PH, biF (.xatA "name") [mkx 7 a b] g = .ok b g := fun g => za9 (by decide +kernel) (by decide +kernel) rfl
  rw [zai, h450]
  refine zav rfl ?_
  simp only [F_law_fields, zan, List.map, List.length, List.replicate, List.cons_append, List.nil_append]
  rw [zac]; simp
  rw [zac]; simp
  rw [zac]; simp [x_voucher, x_name, zaf]
  exact q _ _ Fr.app (by simp [fdx])
theorem fields_8 (h450 : tbl 450 = F_law_fields) (q : ∀ g n, Fr [] h g → g[n]? = some (.lst (fdx 8 a b)) → Q (.ref n) g) : (call tbl (k + 1) 450 [mkx 8 a b, .int 8] h).Sat Q := by
  have x_top : ∀ g : PH, biF (.xatA "top") [mkx 8 a b] g = .ok a g := fun g => za9 (by decide +kernel) (by decide +kernel) rfl
  rw [zai, h450]
  refine zav rfl ?_
  simp only [F_law_fields, zan, List.map, List.length, List.replicate, List.cons_append, List.nil_append]
  rw [zac]; simp
  rw [zac]; simp
  rw [zac]; simp
  rw [zac]; simp [x_top, zaf]
  exact q _ _ Fr.app (by simp [fdx])
theorem fields_9 (h450 : tbl 450 = F_law_fields) (q : ∀ g n, Fr [] h g → g[n]? = some (.lst (fdx 9 a b)) → Q (.ref n) g) : (call tbl (k + 1) 450 [mkx 9 a b, .int 9] h).Sat Q := by
  have inn : ∀ g : PH, zbi .In (.int 9) (.tup [.int 9, .int 10, .int 11, .int 15, .int 18]) g = .ok (.bl true) g := fun _ => rfl
  have x_name : ∀ g : PH, biF (.xatA "name") [mkx 9 a b] g = .ok a g := fun g => za9 (by decide +kernel) (by decide +kernel) rfl
  rw [zai, h450]
  refine zav rfl ?_
  simp only [F_law_fields, zan, List.map, List.length, List.replicate, List.cons_append, List.nil_append]
  rw [zac]; simp
  rw [zac]; simp
  rw [zac]; simp
  rw [zac]; simp
  rw [zac]; simp [inn, x_name, zaf]
  exact q _ _ Fr.app (by simp [fdx])
theorem fields_10 (h450 : tbl 450 = F_law_fields) (q : ∀ g n, Fr [] h g → g[n]? = some (.lst (fdx 10 a b)) → Q (.ref n) g) : (call tbl (k + 1) 450 [mkx 10 a b, .int 10] h).Sat Q := by
  have inn : ∀ g : PH, zbi .In (.int 10) (.tup [.int 9, .int 10, .int 11, .int 15, .int 18]) g = .ok (.bl true) g := fun _ => rfl
  have x_name : ∀ g : PH, biF (.xatA "name") [mkx 10 a b] g = .ok a g := fun g => za9 (by decide +kernel) (by decide +kernel) rfl
  rw [zai, h450]
  refine zav rfl ?_
  simp only [F_law_fields, zan, List.map, List.length, List.replicate, List.cons_append, List.nil_append]
  rw [zac]; simp
  rw [zac]; simp
  rw [zac]; simp
  rw [zac]; simp
  rw [zac]; simp [inn, x_name, zaf]
  exact q _ _ Fr.app (by simp [fdx])
theorem fields_11 (h450 : tbl 450 = F_law_fields) (q : ∀ g n, Fr [] h g → g[n]? = some (.lst (fdx 11 a b)) → Q (.ref n) g) : (call tbl (k + 1) 450 [mkx 11 a b, .int 11] h).Sat Q := by
  have inn : ∀ g : PH, zbi .In (.int 11) (.tup [.int 9, .int 10, .int 11, .int 15, .int 18]) g = .ok (.bl true) g := fun _ => rfl
  have x_name : ∀ g : PH, biF (.xatA "name") [mkx 11 a b] g = .ok a g := fun g => za9 (by decide +kernel) (by decide +kernel) rfl
  rw [zai, h450]
  refine zav rfl ?_
  simp only [F_law_fields, zan, List.map, List.length, List.replicate, List.cons_append, List.nil_append]
  rw [zac]; simp
  rw [zac]; simp
  rw [zac]; simp
  rw [zac]; simp
  rw [zac]; simp [inn, x_name, zaf]
  exact q _ _ Fr.app (by simp [fdx])
theorem fields_12 (h450 : tbl 450 = F_law_fields) (q : ∀ g n, Fr [] h g → g[n]? = some (.lst (fdx 12 a b)) → Q (.ref n) g) : (call tbl (k + 1) 450 [mkx 12 a b, .int 12] h).Sat Q := by
  have inn : ∀ g : PH, zbi .In (.int 12) (.tup [.int 9, .int 10, .int 11, .int 15, .int 18]) g = .ok (.bl false) g := fun _ => rfl
  have x_kind : ∀ g : PH, biF (.xatA "kind") [mkx 12 a b] g = .ok a g := fun g => za9 (by decide +kernel) (by decide +kernel) rfl
  rw [zai, h450]
  refine zav rfl ?_
  simp only [F_law_fields, zan, List.map, List.length, List.replicate, List.cons_append, List.nil_append]
  rw [zac]; simp
  rw [zac]; simp
  rw [zac]; simp
  rw [zac]; simp
  rw [zac]; simp [inn]
  rw [zac]; simp [x_kind, zaf]
  exact q _ _ Fr.app (by simp [fdx])
theorem fields_13 (h450 : tbl 450 = F_law_fields) (q : ∀ g n, Fr [] h g → g[n]? = some (.lst (fdx 13 a b)) → Q (.ref n) g) : (call tbl (k + 1) 450 [mkx 13 a b, .int 13] h).Sat Q := by
  have inn : ∀ g : PH, zbi .In (.int 13) (.tup [.int 9, .int 10, .int 11, .int 15, .int 18]) g = .ok (.bl false) g := fun _ => rfl
  have x_a : ∀ g : PH, biF (.xatA "a") [mkx 13 a b] g = .ok a g := fun g => za9 (by decide +kernel) (by decide +kernel) rfl
  rw [zai, h450]
  refine zav rfl ?_
  simp only [F_law_fields, zan, List.map, List.length, List.replicate, List.cons_append, List.nil_append]
  rw [zac]; simp
  rw [zac]; simp
  rw [zac]; simp
  rw [zac]; simp
  rw [zac]; simp [inn]
  rw [zac]; simp
  rw [zac]; simp [x_a, zaf]
  exact q _ _ Fr.app (by simp [fdx])
theorem fields_14 (h450 : tbl 450 = F_law_fields) (q : ∀ g n, Fr [] h g → g[n]? = some (.lst (fdx 14 a b)) → Q (.ref n) g) : (call tbl (k + 1) 450 [mkx 14 a b, .int 14] h).Sat Q := by
  have inn : ∀ g : PH, zbi .In (.int 14) (.tup [.int 9, .int 10, .int 11, .int 15, .int 18]) g = .ok (.bl false) g := fun _ => rfl
  have x_weight : ∀ g : PH, biF (.xatA "weight") [mkx 14 a b] g = .ok a g := fun g => za9 (by decide +kernel) (by decide +kernel) rfl
  rw [zai, h450]
  refine zav rfl ?_
  simp only [F_law_fields, zan, List.map, List.length, List.replicate, List.cons_append, List.nil_append]
  rw [zac]; simp
  rw [zac]; simp
  rw [zac]; simp
  rw [zac]; simp
  rw [zac]; simp [inn]
  rw [zac]; simp
  rw [zac]; simp
  rw [zac]; simp [x_weight, zaf]
  exact q _ _ Fr.app (by simp [fdx])
theorem fields_15 (h450 : tbl 450 = F_law_fields) (q : ∀ g n, Fr [] h g → g[n]? = some (.lst (fdx 15 a b)) → Q (.ref n) g) : (call tbl (k + 1) 450 [mkx 15 a b, .int 15] h).Sat Q := by
  have inn : ∀ g : PH, zbi .In (.int 15) (.tup [.int 9, .int 10, .int 11, .int 15, .int 18]) g = .ok (.bl true) g := fun _ => rfl
  have x_name : ∀ g : PH, biF (.xatA "name") [mkx 15 a b] g = .ok a g := fun g => za9 (by decide +kernel) (by decide +kernel) rfl
  rw [zai, h450]
  refine zav rfl ?_
  simp only [F_law_fields, zan, List.map, List.length, List.replicate, List.cons_append, List.nil_append]
  rw [zac]; simp
  rw [zac]; simp
  rw [zac]; simp
  rw [zac]; simp
  rw [zac]; simp [inn, x_name, zaf]
  exact q _ _ Fr.app (by simp [fdx])
theorem fields_16 (h450 : tbl 450 = F_law_fields) (q : ∀ g n, Fr [] h g → g[n]? = some (.lst (fdx 16 a b)) → Q (.ref n) g) : (call tbl (k + 1) 450 [mkx 16 a b, .int 16] h).Sat Q := by
  have inn : ∀ g : PH, zbi .In (.int 16) (.tup [.int 9, .int 10, .int 11, .int 15, .int 18]) g = .ok (.bl false) g := fun _ => rfl
  have x_part : ∀ g : PH, biF (.xatA "part") [mkx 16 a b] g = .ok a g := fun g => za9 (by decide +kernel) (by decide +kernel) rfl
  rw [zai, h450]
  refine zav rfl ?_
  simp only [F_law_fields, zan, List.map, List.length, List.replicate, List.cons_append, List.nil_append]
  rw [zac]; simp
  rw [zac]; simp
  rw [zac]; simp
  rw [zac]; simp
  rw [zac]; simp [inn]
  rw [zac]; simp
  rw [zac]; simp
  rw [zac]; simp
  rw [zac]; simp [x_part, zaf]
  exact q _ _ Fr.app (by simp [fdx])
theorem fields_17 (h450 : tbl 450 = F_law_fields) (q : ∀ g n, Fr [] h g → g[n]? = some (.lst (fdx 17 a b)) → Q (.ref n) g) : (call tbl (k + 1) 450 [mkx 17 a b, .int 17] h).Sat Q := by
  have inn : ∀ g : PH, zbi .In (.int 17) (.tup [.int 9, .int 10, .int 11, .int 15, .int 18]) g = .ok (.bl false) g := fun _ => rfl
  have x_row : ∀ g : PH, biF (.xatA "row") [mkx 17 a b] g = .ok a g := fun g => za9 (by decide +kernel) (by decide +kernel) rfl
  rw [zai, h450]
  refine zav rfl ?_
  simp only [F_law_fields, zan, List.map, List.length, List.replicate, List.cons_append, List.nil_append]
  rw [zac]; simp
  rw [zac]; simp
  rw [zac]; simp
  rw [zac]; simp
  rw [zac]; simp [inn]
  rw [zac]; simp
  rw [zac]; simp
  rw [zac]; simp
  rw [zac]; simp
  rw [zac]; simp [x_row, zaf]
  exact q _ _ Fr.app (by simp [fdx])
theorem fields_18 (h450 : tbl 450 = F_law_fields) (q : ∀ g n, Fr [] h g → g[n]? = some (.lst (fdx 18 a b)) → Q (.ref n) g) : (call tbl (k + 1) 450 [mkx 18 a b, .int 18] h).Sat Q := by
  have inn : ∀ g : PH, zbi .In (.int 18) (.tup [.int 9, .int 10, .int 11, .int 15, .int 18]) g = .ok (.bl true) g := fun _ => rfl
  have x_name : ∀ g : PH, biF (.xatA "name") [mkx 18 a b] g = .ok a g := fun g => za9 (by decide +kernel) (by decide +kernel) rfl
  rw [zai, h450]
  refine zav rfl ?_
  simp only [F_law_fields, zan, List.map, List.length, List.replicate, List.cons_append, List.nil_append]
  rw [zac]; simp
  rw [zac]; simp
  rw [zac]; simp
  rw [zac]; simp
  rw [zac]; simp [inn, x_name, zaf]
  exact q _ _ Fr.app (by simp [fdx])
theorem fields_19 (h450 : tbl 450 = F_law_fields) (q : ∀ g n, Fr [] h g → g[n]? = some (.lst (fdx 19 a b)) → Q (.ref n) g) : (call tbl (k + 1) 450 [mkx 19 a b, .int 19] h).Sat Q := by
  have inn : ∀ g : PH, zbi .In (.int 19) (.tup [.int 9, .int 10, .int 11, .int 15, .int 18]) g = .ok (.bl false) g := fun _ => rfl
  rw [zai, h450]
  refine zav rfl ?_
  simp only [F_law_fields, zan, List.map, List.length, List.replicate, List.cons_append, List.nil_append]
  rw [zac]; simp
  rw [zac]; simp
  rw [zac]; simp
  rw [zac]; simp
  rw [zac]; simp [inn]
  rw [zac]; simp
  rw [zac]; simp
  rw [zac]; simp
  rw [zac]; simp
  rw [zac]; simp
  try rw [x_one]
  simp [zaf]
  exact q _ _ Fr.app (by simp [fdx])
theorem fields_20 (h450 : tbl 450 = F_law_fields) (q : ∀ g n, Fr [] h g → g[n]? = some (.lst (fdx 20 a b)) → Q (.ref n) g) : (call tbl (k + 1) 450 [mkx 20 a b, .int 20] h).Sat Q := by
  have inn : ∀ g : PH, zbi .In (.int 20) (.tup [.int 9, .int 10, .int 11, .int 15, .int 18]) g = .ok (.bl false) g := fun _ => rfl
  rw [zai, h450]
  refine zav rfl ?_
  simp only [F_law_fields, zan, List.map, List.length, List.replicate, List.cons_append, List.nil_append]
  rw [zac]; simp
  rw [zac]; simp
  rw [zac]; simp
  rw [zac]; simp
  rw [zac]; simp [inn]
  rw [zac]; simp
  rw [zac]; simp
  rw [zac]; simp
  rw [zac]; simp
  rw [zac]; simp
  try rw [x_one]
  simp [zaf]
  exact q _ _ Fr.app (by simp [fdx])
theorem fields_21 (h450 : tbl 450 = F_law_fields) (q : ∀ g n, Fr [] h g → g[n]? = some (.lst (fdx 21 a b)) → Q (.ref n) g) : (call tbl (k + 1) 450 [mkx 21 a b, .int 21] h).Sat Q := by
  have inn : ∀ g : PH, zbi .In (.int 21) (.tup [.int 9, .int 10, .int 11, .int 15, .int 18]) g = .ok (.bl false) g := fun _ => rfl
  rw [zai, h450]
  refine zav rfl ?_
  simp only [F_law_fields, zan, List.map, List.length, List.replicate, List.cons_append, List.nil_append]
  rw [zac]; simp
  rw [zac]; simp
  rw [zac]; simp
  rw [zac]; simp
  rw [zac]; simp [inn]
  rw [zac]; simp
  rw [zac]; simp
  rw [zac]; simp
  rw [zac]; simp
  rw [zac]; simp
  try rw [x_one]
  simp [zaf]
  exact q _ _ Fr.app (by simp [fdx])
theorem fields_sat (h450 : tbl 450 = F_law_fields) (hr : r < 22) (q : ∀ g n, Fr [] h g → g[n]? = some (.lst (fdx r a b)) → Q (.ref n) g) : (call tbl (k + 1) 450 [mkx r a b, .int (r : Int)] h).Sat Q := by
  have hc : r = 0 ∨ r = 1 ∨ r = 2 ∨ r = 3 ∨ r = 4 ∨ r = 5 ∨ r = 6 ∨ r = 7 ∨ r = 8 ∨ r = 9 ∨ r = 10 ∨ r = 11 ∨ r = 12 ∨ r = 13 ∨ r = 14 ∨ r = 15 ∨ r = 16 ∨ r = 17 ∨ r = 18 ∨ r = 19 ∨ r = 20 ∨ r = 21 := by omega
  rcases hc with rfl | rfl | rfl | rfl | rfl | rfl | rfl | rfl | rfl | rfl | rfl | rfl | rfl | rfl | rfl | rfl | rfl | rfl | rfl | rfl | rfl | rfl
  · exact fields_0 h450 q
  · exact fields_1 h450 q
  · exact fields_2 h450 q
  · exact fields_3 h450 q
  · exact fields_4 h450 q
  · exact fields_5 h450 q
  · exact fields_6 h450 q
  · exact fields_7 h450 q
  · exact fields_8 h450 q
  · exact fields_9 h450 q
  · exact fields_10 h450 q
  · exact fields_11 h450 q
  · exact fields_12 h450 q
  · exact fields_13 h450 q
  · exact fields_14 h450 q
  · exact fields_15 h450 q
  · exact fields_16 h450 q
  · exact fields_17 h450 q
  · exact fields_18 h450 q
  · exact fields_19 h450 q
  · exact fields_20 h450 q
  · exact fields_21 h450 q
end
end Sb
namespace Sb
open PySem
theorem same_int {h : PH} {d : Nat} (b : Int) : sameP h d (.int b) (.int b) := by unfold sameP; rfl
end Sb
namespace Sb
open PySem
/-- a thing that was drawn: it holds no place that may change -/
def Th (g : PH) (x : PV) : Prop := (∀ h : PH, sameP h 1 x x) ∨ ∃ n, 3 ≤ n ∧ x = .ref n ∧ g[n]? = some (.lst [.int 1])
theorem Th.fr {g g' : PH} {x : PV} {S : List Nat} (t : Th g x) (f : Fr S g g') (hs : ∀ n ∈ S, n < 3) : Th g' x := by
  rcases t with t | ⟨n, n3, e, q⟩
  · exact .inl t
  · exact .inr ⟨n, n3, e, f.some (fun z => by have := hs n z; omega) q⟩
theorem Th.same {g : PH} {x : PV} (t : Th g x) : sameP g 1 x x := by
  rcases t with t | ⟨n, n3, rfl, q⟩
  · exact t g
  · exact same_list (d := 0) q q (by simp) fun y hy => by
      rw [List.mem_singleton.mp hy]
      exact same_int _
section
variable {tbl : Nat → Fn} {k B : Nat} {h : PH} {Q : PV → PH → Prop}
theorem thing_sat (h5 : tbl 5 = F_law_mix) (h6 : tbl 6 = F_law_draw) (h143 : tbl 143 = F_law_some_thing) (st : St h 2 0 1 B) (hB : B + 8 ≤ 2 ^ 20) (q : ∀ x g, Th g x → St g 2 0 1 (B + 8) → Fr [2, 0] h g → Q x g) : (call tbl (k + 3) 143 [.ref 2] h).Sat Q := by
  rw [zai, h143]
  refine zav rfl ?_
  simp only [F_law_some_thing, zan, List.map, List.length, List.replicate, List.cons_append, List.nil_append]
  have hl : 3 ≤ h.length := by
    obtain ⟨a, b, c⟩ := st.lt
    omega
  have bp : ∀ g : PH, binop .Pow (.int 10) (.int 20) g = .ok (.int (10 ^ 20)) g := fun g => b_pow (by decide +kernel)
  rw [x_one]
  simp [zaf, bp]
  obtain ⟨L, hL⟩ : ∃ L : List PV, L = [PV.str "a", .str "abcdefgh", .str "", .str "A", .int 7, .non, .bl true, .tup [.str "a"], .ref h.length, .tup [.int 0, .int 1], .int 100000000000000000000, .int (-3)] := ⟨_, rfl⟩
  rw [← hL]
  obtain ⟨g0, hg0⟩ : ∃ g0, g0 = h ++ [PO.lst [.int 1], PO.lst L] := ⟨_, rfl⟩
  rw [← hg0]
  have f0 : Fr [] h g0 := by rw [hg0]; exact Fr.app
  have s0 : St g0 2 0 1 B := by rw [hg0]; exact st.app
  have e0 : g0[h.length + 1]? = some (.lst L) := by rw [hg0]; simp
  have e1 : g0[h.length]? = some (.lst [.int 1]) := by rw [hg0]; simp
  refine draw_sat h5 h6 s0 hB (by decide) (by decide) fun r g r0 r1 st1 f1 _ => ?_
  have e2 := f1.some (by simp; omega) e0
  have e3 := f1.some (n := h.length) (by simp only [List.mem_cons, List.not_mem_nil, or_false, not_or]; omega) e1
  obtain ⟨m, rfl⟩ : ∃ m : Nat, r = (m : Nat) := ⟨r.toNat, by omega⟩
  have hl12 : L.length = 12 := by rw [hL]; rfl
  have hm : m < L.length := by omega
  rw [idx_ref e2 (at_nat (List.getElem?_eq_getElem hm))]
  simp
  refine q _ _ ?_ st1 ((f0.mono (by simp)).trans f1)
  have hx : ∀ x ∈ L, Th g x := fun x hx => by
    rw [hL] at hx
    simp at hx
    rcases hx with rfl | rfl | rfl | rfl | rfl | rfl | rfl | rfl | rfl | rfl | rfl | rfl
    · exact .inl fun _ => same_str _
    · exact .inl fun _ => same_str _
    · exact .inl fun _ => same_str _
    · exact .inl fun _ => same_str _
    · exact .inl fun _ => same_int _
    · exact .inl fun _ => by unfold sameP; trivial
    · exact .inl fun _ => same_bool _
    · exact .inl fun _ => same_tup (by simp) fun y hy => by
        rw [List.mem_singleton.mp hy]
        exact same_str _
    · exact .inr ⟨h.length, hl, rfl, e3⟩
    · exact .inl fun _ => same_tup (by simp) fun y hy => by
        simp at hy
        rcases hy with rfl | rfl <;> exact same_int _
    · exact .inl fun _ => same_int _
    · exact .inl fun _ => same_int _
  exact hx _ (List.getElem_mem hm)
theorem fdx_mem {r : Nat} {a b x : PV} (h : x ∈ fdx r a b) : x = a ∨ x = b := by
  unfold fdx at h
  split at h
  · simpa using h
  · split at h
    · simp at h
      exact .inl h
    · simp at h
theorem fdx_len {r : Nat} {a b : PV} : (fdx r a b).length ≤ 2 := by
  unfold fdx
  split
  · simp
  · split <;> simp
/-- what stands ahead of the i-th turn -/
def LI (ns : List Int) (i : Nat) (ρ : Env) (g : PH) : Prop := ∃ (o2 o3 o4 o5 o6 o7 : Option PV), ρ = [some (.cl (ns.map PV.int)), some (.ref 2), o2, o3, o4, o5, o6, o7] ∧ St g 2 0 1 (i * 100)
/-- the end of a turn: the refusal is looked at -/
theorem look_sat (h7 : tbl 7 = F_law_same) (h77 : tbl 77 = F_law_alone) (h144 : tbl 144 = F_law_mine) (h450 : tbl 450 = F_law_fields) {r n : Nat} {a b : PV} {ns : List PV} {i : PV} {N : Env → PH → Prop} {T : PV → PH → Prop} (hr : r < 22) (en : h[n]? = some (.lst (fdx r a b))) (ta : Th h a) (tb : Th h b) (q : ∀ g, Fr [] h g → N [some (.cl ns), some (.ref 2), some i, some (.int (r : Int)), some a, some b, some (mkx r a b), some (.ref n)] g) :
    (exSs (call tbl (k + 4)) [.ifs (.bor (.nt (.call 77 [(.var 6)] [])) (.cmp .NotEq (.call 144 [(.var 6)] []) (.lst [(.var 3)]))) [.ret (.lit (.bl false))] [], .ifs (.nt (.call 7 [(.call 450 [(.var 6), (.var 3)] []), (.var 7)] [])) [.ret (.lit (.bl false))] []] [some (.cl ns), some (.ref 2), some i, some (.int (r : Int)), some a, some b, some (mkx r a b), some (.ref n)] h).Sat N T := by
  rw [zac]
  simp
  refine alone_sat h77 (k := k + 3) hr fun g1 f1 => ?_
  simp
  refine mine_sat h144 (k := k + 3) hr fun g2 m f2 e2 => ?_
  simp [zaf]
  have e2' := (Fr.app (S := []) (t := [PO.lst [.int (r : Int)]])).some (by simp) e2
  have ne := ne_ints (h := g2 ++ [PO.lst [.int (r : Int)]]) (m := m) (n := g2.length) (l := [(r : Int)]) (k := [(r : Int)]) e2' (by simp)
  simp at ne
  simp [ne]
  have F : Fr [] h (g2 ++ [PO.lst [.int (r : Int)]]) := f1.trans (f2.trans Fr.app)
  generalize g2 ++ [PO.lst [.int (r : Int)]] = g3 at F
  refine fields_sat h450 (k := k + 3) hr fun g4 p f4 e4 => ?_
  try simp
  have F4 := F.trans f4
  refine same_sat h7 (k := k + 1) (d := 2) (same_list (d := 1) e4 (F4.some (by simp) en) (by have := fdx_len (r := r) (a := a) (b := b); omega) fun x hx => ?_) fun t => ?_
  · rcases fdx_mem hx with rfl | rfl
    · exact (ta.fr F4 (by simp)).same
    · exact (tb.fr F4 (by simp)).same
  · simp
    exact q _ (F4.trans Fr.app)
theorem k89_true (h4 : tbl 4 = F_law_start) (h5 : tbl 5 = F_law_mix) (h6 : tbl 6 = F_law_draw) (h7 : tbl 7 = F_law_same) (h77 : tbl 77 = F_law_alone) (h143 : tbl 143 = F_law_some_thing) (h144 : tbl 144 = F_law_mine) (h447 : tbl 447 = F_law_single) (h448 : tbl 448 = F_law_by_names) (h449 : tbl 449 = F_law_by_places) (h450 : tbl 450 = F_law_fields) (h451 : tbl 451 = F_law_50) (ns : List Int) (hn : ns.length ≤ 63) : (call tbl 12 451 [.cl (ns.map PV.int)] []).Sat fun v _ => v = .bl true := by
  rw [zai, h451]
  refine zav rfl ?_
  simp only [F_law_50, zan, List.map, List.length, List.replicate, List.cons_append, List.nil_append]
  rw [zac]
  simp
  refine kstart h4 (k := 10) hn fun h0 K0 _ => ?_
  try simp
  rw [zac]
  refine x_forE (l := [.int 6]) (h1 := h0) (by simp) (show walkF .range [.int 6] h0 = some (rangeP 6, []) from rfl) (LI ns) ⟨none, none, none, none, none, none, rfl, K0.st⟩ ?_ ?_
  · rintro i x ρ g hx ⟨o2, o3, o4, o5, o6, o7, rfl, st⟩
    have hi : i < 6 := by
      have := (List.getElem?_eq_some_iff.mp hx).1
      simpa [rangeP] using this
    refine ⟨(fun p hp => by cases hp), _, rfl, ?_⟩
    simp only [List.set]
    rw [zac]
    simp
    refine draw_sat h5 h6 (k := 9) st (by omega) (by decide) (by decide) fun r g1 r0 r1 s1 f1 _ => ?_
    obtain ⟨m, rfl⟩ : ∃ m : Nat, r = (m : Nat) := ⟨r.toNat, by omega⟩
    have hm : m < 22 := by omega
    try simp
    rw [zac]
    simp
    refine thing_sat h5 h6 h143 (k := 8) s1 (by omega) fun a g2 ta s2 f2 => ?_
    try simp
    refine thing_sat h5 h6 h143 (k := 8) s2 (by omega) fun b g3 tb s3 f3 => ?_
    try simp
    refine ⟨_, rfl, ?_⟩
    simp only [List.set]
    have ta3 := ta.fr f3 (by simp)
    rw [zac]
    simp
    refine places_sat h449 (k := 10) hm fun g4 n f4 l4 e4 => ?_
    simp
    refine ⟨_, rfl, ?_⟩
    simp only [List.set]
    have s4 := s3.frame f4 (by simp) (by simp) (by simp)
    have ta4 := ta3.fr f4 (by simp)
    have tb4 := tb.fr f4 (by simp)
    have fin : ∀ (g : PH) (p : Nat), St g 2 0 1 (i * 100 + 8 + 8 + 8 + 8) → Th g a → Th g b → g[p]? = some (.lst (fdx m a b)) → (exSs (call tbl 11) [.ifs (.bor (.nt (.call 77 [(.var 6)] [])) (.cmp .NotEq (.call 144 [(.var 6)] []) (.lst [(.var 3)]))) [.ret (.lit (.bl false))] [], .ifs (.nt (.call 7 [(.call 450 [(.var 6), (.var 3)] []), (.var 7)] [])) [.ret (.lit (.bl false))] []] [some (.cl (ns.map PV.int)), some (.ref 2), some x, some (.int (m : Int)), some a, some b, some (mkx m a b), some (.ref p)] g).Sat
        (LI ns (i + 1)) (fun v _ => v = .bl true) := fun g p s t1 t2 e =>
      look_sat h7 h77 h144 h450 (k := 7) hm e t1 t2 fun g' f => ⟨_, _, _, _, _, _, rfl, (s.frame f (by simp) (by simp) (by simp)).up (by omega)⟩
    rw [zac]
    by_cases h19 : m < 19
    · have c : decide ((m : Int) < 19) = true := decide_eq_true (by omega)
      simp [c]
      refine draw_sat h5 h6 (k := 9) s4 (by omega) (by decide) (by decide) fun u g5 u0 u1 s5 f5 _ => ?_
      have ta5 := ta4.fr f5 (by simp)
      have tb5 := tb4.fr f5 (by simp)
      by_cases hu : u = 1
      · simp [hu]
        refine names89_sat h447 h448 (k := 9) h19 fun g6 p f6 e6 => ?_
        simp
        refine ⟨_, rfl, ?_⟩
        simp only [List.set]
        exact fin _ _ ((s5.frame f6 (by simp) (by simp) (by simp)).up (by omega)) (ta5.fr f6 (by simp)) (tb5.fr f6 (by simp)) e6
      · simp [hu]
        refine fin _ _ (s5.up (by omega)) ta5 tb5 (f5.some ?_ e4)
        have l0 := s3.lt
        simp only [List.mem_cons, List.not_mem_nil, or_false, not_or]
        omega
    · have c : decide ((m : Int) < 19) = false := decide_eq_false (by omega)
      simp [c]
      exact fin _ _ (s4.up (by omega)) ta4 tb4 e4
  · rintro ρ g ⟨o2, o3, o4, o5, o6, o7, rfl, st⟩
    refine ⟨(fun p hp => by cases hp), ?_⟩
    rw [x_one]
    simp
end
end Sb
namespace Sb
theorem law_true : ∀ ns : List Int, ns.length ≤ 63 → ∃ h, call tbl LV 451 [.cl (ns.map PV.int)] [] = .ok (.bl true) h := fun ns hn => by
  have s : (call tbl 12 451 [.cl (ns.map PV.int)] []).Sat fun v _ => v = .bl true := by
    apply k89_true (tbl := tbl) <;> first | assumption | rfl | (constructor <;> rfl)
  obtain ⟨v, h, e, rfl⟩ := s.ex
  exact ⟨h, e⟩
end Sb
open PySem PySem.W PySem.Calls PyProof.Rows
set_option maxHeartbeats 0 in
theorem PySem.Challenge.cw_scalebook_k89_refusals_made_holds : PySem.Challenge.rw_scalebook_k89_refusals_made.Holds := by
  w_on; o_law
  refine HandSHeadRun.head_any (r := OpenLaw.row PySem.Challenge.rw_scalebook_k89_refusals_made) (q := view (OpenLaw.row PySem.Challenge.rw_scalebook_k89_refusals_made).prog [36]) (H := Sb.hookU 5 Sb.hfa Sb.hfn Sb.hex Sb.hts) (ob := Sb.obsU 5 Sb.hfa Sb.hfn Sb.hex Sb.hts) (M := 9000) (loose := Sb.loose) (d := HandSHeadRun.topDef (OpenLaw.row PySem.Challenge.rw_scalebook_k89_refusals_made).prog 36) (kwd := []) Sb.obsU_eq
    (by kernel_rfl) (fun s => by kernel_rfl) Sb.run (by kernel_rfl) (by kernel_rfl) (by kernel_rfl) (by rfl) (by first | assumption | decide +kernel) (by decide +kernel) ⟨rfl, rfl, rfl, rfl, rfl, by decide +kernel⟩ ?hw ?hc
  case hw => w_witness2
  case hc =>
    refine Sb.walk_ofT (l := PySem.Challenge.rw_scalebook_k89_refusals_made) (n := 63) (k := 2 * Sb.LV + 3) (x := "_law_script") rfl (by decide) (by kernel_rfl) ⟨rfl, by decide, by decide⟩ ?F
    intro w mg mb mean fa h Y TP hmg0
    have G := TP.g
    obtain ⟨K, KX, c, e, D⟩ := Y
    have hmg : mg ("law" : PySem.Str) = some (.ref fa) := by
      have e : (HandSHeadRun.topDef (OpenLaw.row PySem.Challenge.rw_scalebook_k89_refusals_made).prog 36).name = ("law" : PySem.Str) := by kernel_rfl
      rw [← e]
      exact hmg0
    obtain ⟨fd, hb, hF⟩ := Sb.law_fn (P := (PySem.Challenge.rw_scalebook_k89_refusals_made).prog) (w := w) KX G hmg c e D
    have tt : ∀ p ∈ Sb.tabCs K, CodeHd h p.1 p.2 ∧ h.get? p.2 = some (tabObj #[]) := fun p hp => by
      obtain ⟨x, hx, e1⟩ := Sb.tabCs_tab hp
      rcases (Sb.tabB_parts (Sb.hex_tab e)).2.2.2 x hx with z | z
      · exact absurd z (by simp)
      · rw [z] at e1
        cases e1
    exact ⟨K, fd, _, Sb.tabCs K, KX, fun p hp => (tt p hp).2, Sb.tabB_none (Sb.hex_tab e), fun p hp => (tt p hp).1, hb, fun H a ns hl hO hT hS => Sb.law_endT Sb.law_true H a ns hl hO hT hS, hF⟩
