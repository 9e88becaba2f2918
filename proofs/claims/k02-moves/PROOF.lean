import PyProof.Rows.All
import Wide.All
import OpenK.AllK
import Wide.FinOn
import HandS.ForMost
import HandS.IsInst
import HandS.Wide
import HandS.Flow
import HandS.NoneIn
import HandS.Zip
import HandS.Exc
import HandS.ExcOwn
import HandS.WordsExc
import HandS.CallSlots
import HandS.Defaults
import HandS.Head0
import HandS.Head1
import HandS.Head2
import HandS.HeadEnd
import HandS.HeadHook1
import HandS.HeadHook2
import PySem.Challenge.RW_scalebook_k02_moves
set_option Elab.async false
set_option linter.all false
set_option maxRecDepth 100000
set_option maxHeartbeats 4000000
/-! Sb: plain values, a plain heap, a small language and its plain interpreter. -/
namespace Sb
open PySem

inductive Ty where
  | none | bool | int | str | tuple | list | dict | set
  deriving DecidableEq
def Ty.nm : Ty → String
  | .none => "NoneType" | .bool => "bool" | .int => "int" | .str => "str" | .tuple => "tuple" | .list => "list" | .dict => "dict" | .set => "set"

inductive PV where
  | non | bl (b : Bool) | int (i : Int) | str (x : Str) | tup (l : List PV) | ref (n : Nat) | cl (l : List PV) | ty (t : Ty)

inductive PO where
  | lst (l : List PV)
abbrev PH := List PO

structure Exn where
  cls : String
  fields : List (String × PV)

inductive R (α : Type) where
  | ok (a : α) (h : PH)
  | ex (x : Exn) (h : PH)
  | no
def R.bind {α β : Type} (m : R α) (f : α → PH → R β) : R β :=
  match m with
  | .ok a h => f a h
  | .ex x h => .ex x h
  | .no => .no
@[simp] theorem R.bind_ok {α β : Type} (a : α) (h : PH) (f : α → PH → R β) : (R.ok a h).bind f = f a h := rfl
@[simp] theorem R.bind_ex {α β : Type} (x : Exn) (h : PH) (f : α → PH → R β) : (R.ex x h : R α).bind f = .ex x h := rfl
@[simp] theorem R.bind_no {α β : Type} (f : α → PH → R β) : (R.no : R α).bind f = .no := rfl
/-- a value that may not be there -/
def ofO {α : Type} (o : Option α) (h : PH) : R α := match o with | some a => .ok a h | none => .no
@[simp] theorem ofO_some {α : Type} (a : α) (h : PH) : ofO (some a) h = .ok a h := rfl
@[simp] theorem ofO_none {α : Type} (h : PH) : ofO (none : Option α) h = .no := rfl
/-- no exception is let out -/
def R.calm {α : Type} (m : R α) : R α := match m with | .ok a h => .ok a h | _ => .no
@[simp] theorem R.calm_ok {α : Type} (a : α) (h : PH) : (R.ok a h).calm = .ok a h := rfl

/-! ### what stands at a place -/
/-- the items of a list (in the heap or constant) or tuple -/
def seqOf (h : PH) : PV → Option (List PV)
  | .tup l => some l
  | .cl l => some l
  | .ref n => match h[n]? with | some (.lst l) => some l | none => none
  | _ => none
def listOf (h : PH) : PV → Option (List PV)
  | .cl l => some l
  | .ref n => match h[n]? with | some (.lst l) => some l | none => none
  | _ => none
def tyOf (h : PH) : PV → Option Ty
  | .non => some .none | .bl _ => some .bool | .int _ => some .int | .str _ => some .str | .tup _ => some .tuple | .cl _ => some .list
  | .ref n => match h[n]? with | some (.lst _) => some .list | none => none
  | .ty _ => none
def lineOk (n : Nat) : Bool := decide (n ≤ 1000000)
def truthy (h : PH) : PV → Option Bool
  | .non => some false
  | .bl b => some b
  | .int i => some (i != 0)
  | .str x => if lineOk x.length then some (decide (0 < x.length)) else none
  | .tup l => some (!l.isEmpty)
  | .cl l => some (!l.isEmpty)
  | .ref n => match h[n]? with | some (.lst l) => some (!l.isEmpty) | none => none
  | .ty _ => none
def alloc (l : List PV) (h : PH) : R PV := if lineOk l.length then .ok (.ref h.length) (h ++ [.lst l]) else .no
def tupO (l : List PV) (h : PH) : R PV := if lineOk l.length then .ok (.tup l) h else .no

/-! ### data, for == -/
def mapO {α β : Type} (f : α → Option β) : List α → Option (List β)
  | [] => some []
  | a :: r => match f a, mapO f r with | some b, some s => some (b :: s) | _, _ => none
def strOkP (x : Str) : Bool := x.cps.all (· < 0x110000)
def pd (h : PH) : Nat → PV → Option PyData
  | _, .non => some .none
  | _, .bl b => some (.bool b)
  | _, .int i => some (.int i)
  | _, .str x => if strOkP x then some (.str x) else none
  | n + 1, .tup l => (mapO (pd h n) l).map .tuple
  | n + 1, .cl l => (mapO (pd h n) l).map .list
  | n + 1, .ref m => match h[m]? with | some (.lst l) => (mapO (pd h n) l).map .list | none => none
  | _, _ => none
def eqP (h : PH) (a b : PV) : Option Bool := match pd h 8 a, pd h 8 b with | some d, some e => some (PyData.eqv d e) | _, _ => none

/-! ### operators -/
def mulOk (i j : Int) : Bool := decide (i.natAbs.log2 + j.natAbs.log2 < 1000000)
def divOk (j : Int) : Bool := decide (j ≠ 0) && decide (j.natAbs.log2 < 9000)
def powOk (i j : Int) : Bool := decide (0 ≤ j) && decide (j ≤ 1000000) && decide (i.natAbs < 2 ^ 64)
def binop (op : Operator) (a b : PV) (h : PH) : R PV :=
  match op, a, b with
  | .Add, .int i, .int j => .ok (.int (i + j)) h
  | .Sub, .int i, .int j => .ok (.int (i - j)) h
  | .Mult, .int i, .int j => if mulOk i j then .ok (.int (i * j)) h else .no
  | .FloorDiv, .int i, .int j => if divOk j then .ok (.int (i.fdiv j)) h else .no
  | .Mod, .int i, .int j => if j = 0 then .no else .ok (.int (i.fmod j)) h
  | .Pow, .int i, .int j => if powOk i j then .ok (.int (i ^ j.toNat)) h else .no
  | .Add, .str x, .str y => if lineOk (x.length + y.length) then .ok (.str (x ++ y)) h else .no
  | .Add, .ref m, .ref n => match h[m]?, h[n]? with
    | some (.lst l), some (.lst k) => if lineOk (l.length + k.length) then alloc (l ++ k) h else .no
    | _, _ => .no
  | _, _, _ => .no
def flatP : PV → Bool
  | .non => true | .bl _ => true | .int _ => true | .str _ => true
  | _ => false
def ltStr (x y : Str) : Bool := decide (x.cps.toList < y.cps.toList)
def isNonP : PV → Bool
  | .non => true
  | _ => false
def cmpop (op : CmpOp) (a b : PV) (h : PH) : R PV :=
  match op, a, b with
  | .Lt, .int i, .int j => .ok (.bl (decide (i < j))) h
  | .LtE, .int i, .int j => .ok (.bl (decide (i ≤ j))) h
  | .Gt, .int i, .int j => .ok (.bl (decide (j < i))) h
  | .GtE, .int i, .int j => .ok (.bl (decide (j ≤ i))) h
  | .Lt, .str x, .str y => .ok (.bl (ltStr x y)) h
  | .Is, x, .non => .ok (.bl (isNonP x)) h
  | .IsNot, x, .non => .ok (.bl (!isNonP x)) h
  | .Eq, .str x, .str y => .ok (.bl (decide (x = y))) h
  | .NotEq, .str x, .str y => .ok (.bl (!decide (x = y))) h
  | .Eq, x, y => ofO ((eqP h x y).map .bl) h
  | .NotEq, x, y => ofO ((eqP h x y).map fun b => .bl (!b)) h
  | _, _, _ => .no

/-! ### subscripts -/
def idxop (a i : PV) (h : PH) : R PV :=
  match a, i with
  | .str x, .int i => if lineOk x.length then (match L2.atI x.cps.toList i with | some c => .ok (.str ⟨#[c]⟩) h | none => .no) else .no
  | a, .int i => match seqOf h a with | some l => ofO (L2.atI l i) h | none => .no
  | _, _ => .no
/-- a[lo:hi] -/
def cutP (l : List PV) (lo hi : Option Int) : List PV := (l.drop (HT.sIx l.length 0 lo)).take (HT.sIx l.length l.length hi - HT.sIx l.length 0 lo)
def slcop (a : PV) (lo hi : Option Int) (h : PH) : R PV :=
  match listOf h a with
  | some l => .ok (.ref h.length) (h ++ [.lst (cutP l lo hi)])
  | none => .no
def setop (a i v : PV) (h : PH) : Option PH :=
  match a, i with
  | .ref n, .int i => match h[n]? with
    | some (.lst l) => match L2.ixN l.length i with | some j => some (h.set n (.lst (l.set j v))) | none => none
    | none => none
  | _, _ => none

/-! ### built-ins -/
inductive BI where
  | abs | len | all | any | isinst | tupleOf | listOf | int1 | min2 | max2 | str1
  deriving DecidableEq
inductive MT where
  | append | popAt
  deriving DecidableEq
def MT.ty : MT → Ty
  | .append => .list | .popAt => .list
def isTy : Ty → Ty → Bool
  | .bool, .int => true
  | a, b => decide (a = b)
def boolsOf : List PV → Option (List Bool)
  | [] => some []
  | .bl b :: r => (boolsOf r).map (b :: ·)
  | _ :: _ => none
def tysOf : List PV → Option (List Ty)
  | [] => some []
  | .ty b :: r => (tysOf r).map (b :: ·)
  | _ :: _ => none
def biAbs (as : List PV) (h : PH) : R PV := match as with
  | [.int i] => .ok (.int (if i < 0 then -i else i)) h
  | _ => .no
def biLen (as : List PV) (h : PH) : R PV := match as with
  | [.str x] => if lineOk x.length then .ok (.int x.length) h else .no
  | [a] => (match seqOf h a with | some l => .ok (.int l.length) h | none => .no)
  | _ => .no
def biAll (as : List PV) (h : PH) : R PV := match as with
  | [a] => (match (listOf h a).bind boolsOf with | some bs => .ok (.bl (bs.all id)) h | none => .no)
  | _ => .no
def biAny (as : List PV) (h : PH) : R PV := match as with
  | [a] => (match (listOf h a).bind boolsOf with | some bs => .ok (.bl (bs.any id)) h | none => .no)
  | _ => .no
def biIsinst (as : List PV) (h : PH) : R PV := match as with
  | [a, .ty t] => (match tyOf h a with | some s => .ok (.bl (isTy s t)) h | none => .no)
  | [a, .tup l] => (match tyOf h a, tysOf l with | some s, some ts => .ok (.bl (ts.any (isTy s))) h | _, _ => .no)
  | _ => .no
def biTuple (as : List PV) (h : PH) : R PV := match as with
  | [.tup l] => .ok (.tup l) h
  | [a] => (match listOf h a with | some l => .ok (.tup l) h | none => .no)
  | _ => .no
def biList (as : List PV) (h : PH) : R PV := match as with
  | [a] => (match seqOf h a with | some l => .ok (.ref h.length) (h ++ [.lst l]) | none => .no)
  | _ => .no
def biInt (as : List PV) (h : PH) : R PV := match as with
  | [.int i] => .ok (.int i) h
  | [.bl b] => .ok (.int (if b then 1 else 0)) h
  | _ => .no
def biMin2 (as : List PV) (h : PH) : R PV := match as with
  | [.int i, .int j] => .ok (.int (if j < i then j else i)) h
  | _ => .no
def biMax2 (as : List PV) (h : PH) : R PV := match as with
  | [.int i, .int j] => .ok (.int (if j > i then j else i)) h
  | _ => .no
def biF : BI → List PV → PH → R PV
  | .abs => biAbs | .len => biLen | .all => biAll | .any => biAny | .isinst => biIsinst | .tupleOf => biTuple | .listOf => biList | .int1 => biInt | .min2 => biMin2 | .max2 => biMax2
  | .str1 => fun _ _ => .no
def mtAppend (o : PV) (as : List PV) (h : PH) : R PV := match o, as with
  | .ref n, [v] => (match h[n]? with
    | some (.lst l) => if lineOk (l.length + 1) then .ok .non (h.set n (.lst (l ++ [v]))) else .no
    | none => .no)
  | _, _ => .no
def mtPopAt (o : PV) (as : List PV) (h : PH) : R PV := match o, as with
  | .ref n, [.int i] => (match h[n]? with
    | some (.lst l) => if 0 ≤ i then (match l[i.toNat]? with | some v => .ok v (h.set n (.lst (l.eraseIdx i.toNat))) | none => .no) else .no
    | none => .no)
  | _, _ => .no
def mtF : MT → PV → List PV → PH → R PV
  | .append => mtAppend
  | .popAt => mtPopAt

/-! ### the language -/
inductive ITK where
  | seq | range | zip
  deriving DecidableEq
inductive E where
  | var (i : Nat)
  | lit (v : PV)
  | bin (op : Operator) (a b : E)
  | neg (a : E)
  | nt (a : E)
  | band (a b : E)
  | bor (a b : E)
  | cmp (op : CmpOp) (a b : E)
  | ite (t a b : E)
  | tup (es : List E)
  | lst (es : List E)
  | idx (a i : E)
  | slc (a : E) (lo hi : Option E)
  | call (f : Nat) (es : List E) (ds : List PV)
  | bi (b : BI) (es : List E)
  | mth (m : MT) (o : E) (es : List E)
  | comp (elt : E) (tg : List Nat) (one : Bool) (k : ITK) (its : List E) (cond : Option E) (own : List Nat)
inductive Tgt where
  | nm (i : Nat)
  | tup (is : List Nat)
  | unl (is : List Nat)
  | sub (o i : E)
inductive S where
  | asg (g : Tgt) (e : E)
  | aug (i : Nat) (op : Operator) (e : E)
  | augs (o i : E) (op : Operator) (e : E)
  | ifs (t : E) (a b : List S)
  | whl (t : E) (b : List S)
  | fr (tg : List Nat) (one : Bool) (k : ITK) (its : List E) (b : List S)
  | ret (e : E)
  | ret0
  | ex (e : E)
  | pass
  | brk
  | cont
  | raise (e : E)
structure Fn where
  np : Nat
  ns : Nat
  body : List S

abbrev Env := List (Option PV)
def Env.get (ρ : Env) (i : Nat) : Option PV := match ρ[i]? with | some (some v) => some v | _ => none
def wipeP (ρ : Env) : List Nat → Env
  | [] => ρ
  | i :: r => (wipeP ρ r).set i none
def setAll (ρ : Env) : List Nat → List PV → Option Env
  | [], [] => some ρ
  | i :: is, v :: vs => setAll (ρ.set i (some v)) is vs
  | _, _ => none
/-- a loop's target: one name, or names for a tuple's items -/
def setTg (ρ : Env) (is : List Nat) (one : Bool) (v : PV) : Option Env :=
  match one, is, v with
  | true, [i], v => some (ρ.set i (some v))
  | false, is, .tup l => setAll ρ is l
  | _, _, _ => none
/-- what a loop walks: its items, and what must stay as it is -/
def rangeP (n : Int) : List PV := (List.range n.toNat).map fun i => .int (i : Nat)
end Sb

set_option Elab.async false
set_option linter.all false
set_option maxRecDepth 100000
set_option maxHeartbeats 4000000
/-! Sb: the interpreter. -/
namespace Sb
open PySem

/-- what two zipped things give -/
def zipP : List PV → List PV → List PV
  | a :: as, b :: bs => .tup [a, b] :: zipP as bs
  | _, _ => []
abbrev Keep := List (Nat × List PV)
def stays (kp : Keep) (h : PH) : Prop := ∀ p ∈ kp, h[p.1]? = some (.lst p.2)
/-- what a loop walks: its items, and what must stay as it is -/
def walkSeq (as : List PV) (h : PH) : Option (List PV × Keep) := match as with
  | [.cl l] => some (l, [])
  | [.ref n] => (match h[n]? with | some (.lst l) => some (l, [(n, l)]) | none => none)
  | [.tup l] => some (l, [])
  | _ => none
def walkRange (as : List PV) (h : PH) : Option (List PV × Keep) := match as with
  | [.int n] => if n < 2 ^ 62 ∧ -(2 ^ 62) ≤ n then some (rangeP n, []) else none
  | _ => none
def walkZip (as : List PV) (h : PH) : Option (List PV × Keep) := match as with
  | [.tup l, .tup k] => some (zipP l k, [])
  | [.ref m, .ref n] => (match h[m]?, h[n]? with
    | some (.lst l), some (.lst k) => some (zipP l k, [(m, l), (n, k)])
    | _, _ => none)
  | _ => none
def walkF : ITK → List PV → PH → Option (List PV × Keep)
  | .seq => walkSeq
  | .range => walkRange
  | .zip => walkZip

inductive RS where
  | nx (ρ : Env) (h : PH)
  | rt (v : PV) (h : PH)
  | bk (ρ : Env) (h : PH)
  | ct (ρ : Env) (h : PH)
  | ex (x : Exn) (ρ : Env) (h : PH)
  | no
/-- an expression ahead of a statement's rest -/
def R.st {α : Type} (m : R α) (ρ : Env) (f : α → PH → RS) : RS := match m with | .ok a h => f a h | .ex x h => .ex x ρ h | .no => .no
@[simp] theorem R.st_ok {α : Type} (a : α) (h : PH) (ρ : Env) (f : α → PH → RS) : (R.ok a h).st ρ f = f a h := rfl
@[simp] theorem R.st_no {α : Type} (ρ : Env) (f : α → PH → RS) : (R.no : R α).st ρ f = .no := rfl
@[simp] theorem R.st_ex {α : Type} (x : Exn) (h : PH) (ρ : Env) (f : α → PH → RS) : (R.ex x h : R α).st ρ f = .ex x ρ h := rfl
def RS.seq (m : RS) (f : Env → PH → RS) : RS := match m with | .nx ρ h => f ρ h | r => r
@[simp] theorem RS.seq_nx (ρ : Env) (h : PH) (f : Env → PH → RS) : (RS.nx ρ h).seq f = f ρ h := rfl
@[simp] theorem RS.seq_rt (v : PV) (h : PH) (f : Env → PH → RS) : (RS.rt v h).seq f = .rt v h := rfl
@[simp] theorem RS.seq_no (f : Env → PH → RS) : RS.no.seq f = .no := rfl
@[simp] theorem RS.seq_bk (ρ : Env) (h : PH) (f : Env → PH → RS) : (RS.bk ρ h).seq f = .bk ρ h := rfl
@[simp] theorem RS.seq_ct (ρ : Env) (h : PH) (f : Env → PH → RS) : (RS.ct ρ h).seq f = .ct ρ h := rfl
@[simp] theorem RS.seq_ex (x : Exn) (ρ : Env) (h : PH) (f : Env → PH → RS) : (RS.ex x ρ h).seq f = .ex x ρ h := rfl

/-! ### loops -/
open Classical in
noncomputable def compLoop (kp : Keep) (bind : PV → Option Env) (t : Env → PH → R Bool) (e : Env → PH → R PV) : List PV → List PV → PH → R (List PV)
  | [], acc, h => if stays kp h then .ok acc h else .no
  | x :: xs, acc, h => if stays kp h then
      (match bind x with
      | some ρ => (t ρ h).bind fun b h1 => if b then (e ρ h1).bind fun v h2 => if lineOk (acc.length + 1) then compLoop kp bind t e xs (acc ++ [v]) h2 else .no else compLoop kp bind t e xs acc h1
      | none => .no) else .no
/-- a loop's turn ends: the next one, or the loop's end -/
def RS.turn (m : RS) (f : Env → PH → RS) : RS := match m with | .nx ρ h => f ρ h | .ct ρ h => f ρ h | .bk ρ h => .nx ρ h | r => r
@[simp] theorem RS.turn_nx (ρ : Env) (h : PH) (f : Env → PH → RS) : (RS.nx ρ h).turn f = f ρ h := rfl
@[simp] theorem RS.turn_ct (ρ : Env) (h : PH) (f : Env → PH → RS) : (RS.ct ρ h).turn f = f ρ h := rfl
@[simp] theorem RS.turn_bk (ρ : Env) (h : PH) (f : Env → PH → RS) : (RS.bk ρ h).turn f = .nx ρ h := rfl
@[simp] theorem RS.turn_rt (v : PV) (h : PH) (f : Env → PH → RS) : (RS.rt v h).turn f = .rt v h := rfl
@[simp] theorem RS.turn_ex (x : Exn) (ρ : Env) (h : PH) (f : Env → PH → RS) : (RS.ex x ρ h).turn f = .ex x ρ h := rfl
@[simp] theorem RS.turn_no (f : Env → PH → RS) : RS.no.turn f = .no := rfl
open Classical in
noncomputable def forLoop (kp : Keep) (bind : Env → PV → Option Env) (b : Env → PH → RS) : List PV → Env → PH → RS
  | [], ρ, h => if stays kp h then .nx ρ h else .no
  | x :: xs, ρ, h => if stays kp h then (match bind ρ x with | some ρ1 => (b ρ1 h).turn (forLoop kp bind b xs) | none => .no) else .no
def whileN (t : Env → PH → R Bool) (b : Env → PH → RS) : Nat → Env → PH → RS
  | 0, _, _ => .no
  | n + 1, ρ, h => (t ρ h).st ρ fun c h1 => if c then (b ρ h1).turn (whileN t b n) else .nx ρ h1
theorem whileN_up {t : Env → PH → R Bool} {b : Env → PH → RS} : ∀ (n : Nat) (ρ : Env) (h : PH), whileN t b n ρ h ≠ .no → whileN t b (n + 1) ρ h = whileN t b n ρ h := by
  intro n
  induction n with
  | zero => intro ρ h q; exact absurd rfl q
  | succ n ih =>
    intro ρ h q
    show (t ρ h).st ρ (fun c h1 => if c then (b ρ h1).turn (whileN t b (n + 1)) else .nx ρ h1) = (t ρ h).st ρ fun c h1 => if c then (b ρ h1).turn (whileN t b n) else .nx ρ h1
    have q' : ((t ρ h).st ρ fun c h1 => if c then (b ρ h1).turn (whileN t b n) else .nx ρ h1) ≠ .no := q
    cases e : t ρ h with
    | no => rfl
    | ex x h1 => rfl
    | ok c h1 =>
      rw [e] at q'
      simp only [R.st_ok] at q' ⊢
      cases c with
      | false => rfl
      | true =>
        simp only [if_true] at q' ⊢
        cases e2 : b ρ h1 with
        | nx ρ2 h2 => rw [e2] at q'; exact ih ρ2 h2 q'
        | ct ρ2 h2 => rw [e2] at q'; exact ih ρ2 h2 q'
        | bk ρ2 h2 => rfl
        | rt v h2 => rfl
        | ex x ρ2 h2 => rfl
        | no => rfl
theorem whileN_le {t : Env → PH → R Bool} {b : Env → PH → RS} {m n : Nat} {ρ : Env} {h : PH} (hmn : m ≤ n) (q : whileN t b m ρ h ≠ .no) : whileN t b n ρ h = whileN t b m ρ h := by
  induction hmn with
  | refl => rfl
  | step _ ih => rw [whileN_up _ _ _ (by rw [ih]; exact q), ih]
open Classical in
noncomputable def whileF (t : Env → PH → R Bool) (b : Env → PH → RS) (ρ : Env) (h : PH) : RS :=
  if q : ∃ n, whileN t b n ρ h ≠ .no then whileN t b q.choose ρ h else .no
theorem whileF_of {t : Env → PH → R Bool} {b : Env → PH → RS} {n : Nat} {ρ : Env} {h : PH} (q : whileN t b n ρ h ≠ .no) : whileF t b ρ h = whileN t b n ρ h := by
  unfold whileF
  have q' : ∃ n, whileN t b n ρ h ≠ .no := ⟨n, q⟩
  rw [dif_pos q']
  rcases Nat.le_total n q'.choose with z | z
  · exact whileN_le z q
  · exact (whileN_le z q'.choose_spec).symm
theorem whileF_some {t : Env → PH → R Bool} {b : Env → PH → RS} {ρ : Env} {h : PH} (q : whileF t b ρ h ≠ .no) : ∃ n, whileN t b n ρ h ≠ .no ∧ whileF t b ρ h = whileN t b n ρ h := by
  by_cases q' : ∃ n, whileN t b n ρ h ≠ .no
  · obtain ⟨n, e⟩ := q'
    exact ⟨n, e, whileF_of e⟩
  · exfalso
    apply q
    unfold whileF
    rw [dif_neg q']
/-- a while, one turn -/
theorem whileF_eq (t : Env → PH → R Bool) (b : Env → PH → RS) (ρ : Env) (h : PH) : whileF t b ρ h = (t ρ h).st ρ fun c h1 => if c then (b ρ h1).turn (whileF t b) else .nx ρ h1 := by
  by_cases q : ((t ρ h).st ρ fun c h1 => if c then (b ρ h1).turn (whileF t b) else .nx ρ h1) = .no
  · rw [q]
    by_cases z : whileF t b ρ h = .no
    · exact z
    · exfalso
      obtain ⟨n, e1, e2⟩ := whileF_some z
      cases n with
      | zero => exact e1 rfl
      | succ n =>
        apply e1
        show ((t ρ h).st ρ fun c h1 => if c then (b ρ h1).turn (whileN t b n) else .nx ρ h1) = .no
        cases e : t ρ h with
        | no => rfl
        | ex x h1 => rw [e] at q; cases q
        | ok c h1 =>
          rw [e] at q
          simp only [R.st_ok] at q ⊢
          cases c with
          | false => simp at q
          | true =>
            simp only [if_true] at q ⊢
            cases e3 : b ρ h1 with
            | nx ρ2 h2 =>
              rw [e3] at q
              by_cases w : whileN t b n ρ2 h2 = .no
              · exact w
              · have := whileF_of w
                show whileN t b n ρ2 h2 = .no
                rw [← this]
                exact q
            | ct ρ2 h2 =>
              rw [e3] at q
              by_cases w : whileN t b n ρ2 h2 = .no
              · exact w
              · have := whileF_of w
                show whileN t b n ρ2 h2 = .no
                rw [← this]
                exact q
            | bk ρ2 h2 => rw [e3] at q; cases q
            | rt v h2 => rw [e3] at q; cases q
            | ex x ρ2 h2 => rw [e3] at q; cases q
            | no => rfl
  · have key : ∃ n, whileN t b n ρ h = (t ρ h).st ρ fun c h1 => if c then (b ρ h1).turn (whileF t b) else .nx ρ h1 := by
      cases e : t ρ h with
      | no => rw [e] at q; exact absurd rfl q
      | ex x h1 => exact ⟨1, by show (t ρ h).st ρ _ = _; rw [e]; rfl⟩
      | ok c h1 =>
        rw [e] at q
        simp only [R.st_ok] at q ⊢
        cases c with
        | false => exact ⟨1, by show (t ρ h).st ρ _ = _; rw [e]; rfl⟩
        | true =>
          simp only [if_true] at q ⊢
          cases e3 : b ρ h1 with
          | nx ρ2 h2 =>
            rw [e3] at q
            obtain ⟨n, _, e5⟩ := whileF_some (show whileF t b ρ2 h2 ≠ .no from q)
            exact ⟨n + 1, by show (t ρ h).st ρ _ = _; rw [e]; simp only [R.st_ok, if_true]; rw [e3]; exact e5.symm⟩
          | ct ρ2 h2 =>
            rw [e3] at q
            obtain ⟨n, _, e5⟩ := whileF_some (show whileF t b ρ2 h2 ≠ .no from q)
            exact ⟨n + 1, by show (t ρ h).st ρ _ = _; rw [e]; simp only [R.st_ok, if_true]; rw [e3]; exact e5.symm⟩
          | bk ρ2 h2 => exact ⟨1, by show (t ρ h).st ρ _ = _; rw [e]; simp only [R.st_ok, if_true]; rw [e3]; rfl⟩
          | rt v h2 => exact ⟨1, by show (t ρ h).st ρ _ = _; rw [e]; simp only [R.st_ok, if_true]; rw [e3]; rfl⟩
          | ex x ρ2 h2 => exact ⟨1, by show (t ρ h).st ρ _ = _; rw [e]; simp only [R.st_ok, if_true]; rw [e3]; rfl⟩
          | no => rw [e3] at q; exact absurd rfl q
    obtain ⟨n, e⟩ := key
    rw [← e] at q ⊢
    exact whileF_of q

/-! ### the interpreter; C: what a call of a def gives -/
abbrev Calls := Nat → List PV → PH → R PV
/-- a value as it is, or (t) its truth -/
def fin (t : Bool) (m : R PV) : R PV := if t then m.bind fun x h => ofO ((truthy h x).map .bl) h else m
def asB (m : R PV) : R Bool := m.bind fun x h => match x with | .bl b => .ok b h | _ => .no
mutual
/-- t: asked as a test -/
noncomputable def evG (C : Calls) : E → Bool → Env → PH → R PV
  | .var i, t, ρ, h => fin t (ofO (ρ.get i) h)
  | .lit v, t, _, h => fin t (.ok v h)
  | .bin op a b, t, ρ, h => fin t ((evG C a false ρ h).bind fun x h1 => (evG C b false ρ h1).bind fun y h2 => binop op x y h2)
  | .neg a, t, ρ, h => fin t ((evG C a false ρ h).bind fun x h1 => match x with | .int i => .ok (.int (-i)) h1 | _ => .no)
  | .nt a, t, ρ, h => (evG C a t ρ h).bind fun x h1 => match x with | .bl b => .ok (.bl (!b)) h1 | _ => .no
  | .band a b, t, ρ, h => (evG C a t ρ h).bind fun x h1 => match x with | .bl true => evG C b t ρ h1 | .bl false => .ok (.bl false) h1 | _ => .no
  | .bor a b, t, ρ, h => (evG C a t ρ h).bind fun x h1 => match x with | .bl false => evG C b t ρ h1 | .bl true => .ok (.bl true) h1 | _ => .no
  | .cmp op a b, t, ρ, h => fin t ((evG C a false ρ h).bind fun x h1 => (evG C b false ρ h1).bind fun y h2 => cmpop op x y h2)
  | .ite c a b, t, ρ, h => fin t ((evG C c true ρ h).bind fun x h1 => match x with | .bl true => evG C a false ρ h1 | .bl false => evG C b false ρ h1 | _ => .no)
  | .tup es, t, ρ, h => fin t ((evGs C es ρ h).bind fun l h1 => tupO l h1)
  | .lst es, t, ρ, h => fin t ((evGs C es ρ h).bind fun l h1 => alloc l h1)
  | .idx a i, t, ρ, h => fin t ((evG C a false ρ h).bind fun x h1 => (evG C i false ρ h1).bind fun y h2 => idxop x y h2)
  | .slc a lo hi, t, ρ, h => fin t ((evG C a false ρ h).bind fun x h1 => (evGo C lo ρ h1).bind fun l h2 => (evGo C hi ρ h2).bind fun u h3 => slcop x l u h3)
  | .call f es ds, t, ρ, h => fin t ((evGs C es ρ h).bind fun l h1 => C f (l ++ ds) h1)
  | .bi b es, t, ρ, h => fin t ((evGs C es ρ h).bind fun l h1 => biF b l h1)
  | .mth m o es, t, ρ, h => fin t ((evG C o false ρ h).bind fun x h1 => if tyOf h1 x = some m.ty then (evGs C es ρ h1).bind fun l h2 => mtF m x l h2 else .no)
  | .comp elt tg one k its cond own, t, ρ, h => fin t ((evGs C its ρ h).bind fun l h1 =>
      match walkF k l h1 with
      | some (items, kp) => (compLoop kp (fun x => setTg (wipeP ρ own) tg one x) (fun ρ1 h2 => (evGc C cond ρ1 h2).calm) (fun ρ1 h2 => (evG C elt false ρ1 h2).calm) items [] h1).bind fun l h2 => alloc l h2
      | none => .no)
noncomputable def evGs (C : Calls) : List E → Env → PH → R (List PV)
  | [], _, h => .ok [] h
  | e :: es, ρ, h => (evG C e false ρ h).bind fun x h1 => (evGs C es ρ h1).bind fun l h2 => .ok (x :: l) h2
noncomputable def evGo (C : Calls) : Option E → Env → PH → R (Option Int)
  | none, _, h => .ok none h
  | some e, ρ, h => (evG C e false ρ h).bind fun x h1 => match x with | .int i => .ok (some i) h1 | _ => .no
noncomputable def evGc (C : Calls) : Option E → Env → PH → R Bool
  | none, _, h => .ok true h
  | some e, ρ, h => asB (evG C e true ρ h)
end
noncomputable abbrev evE (C : Calls) (e : E) : Env → PH → R PV := evG C e false
noncomputable def evT (C : Calls) (e : E) (ρ : Env) (h : PH) : R Bool := asB (evG C e true ρ h)
/-- a op= b: ints and texts -/
def iopF (op : Operator) (a b : PV) (h : PH) : R PV := match op, a, b with
  | .Add, .int i, .int j => .ok (.int (i + j)) h
  | .Sub, .int i, .int j => .ok (.int (i - j)) h
  | .Add, .str x, .str y => if lineOk (x.length + y.length) then .ok (.str (x ++ y)) h else .no
  | _, _, _ => .no
/-- o[i] of a list of the heap -/
def getL (a i : PV) (h : PH) : R PV := match a, i with
  | .ref n, .int i => if 0 ≤ i then (match h[n]? with | some (.lst l) => ofO l[i.toNat]? h | none => .no) else .no
  | _, _ => .no
/-- a target is stored -/
noncomputable def stTg (C : Calls) : Tgt → PV → Env → PH → RS
  | .nm i, v, ρ, h => .nx (ρ.set i (some v)) h
  | .tup is, .tup l, ρ, h => match setAll ρ is l with | some ρ' => .nx ρ' h | none => .no
  | .tup _, _, _, _ => .no
  | .unl is, .ref n, ρ, h => match h[n]? with | some (.lst l) => (match setAll ρ is l with | some ρ' => .nx ρ' h | none => .no) | none => .no
  | .unl _, _, _, _ => .no
  | .sub o i, v, ρ, h => (evE C o ρ h).st ρ fun x h1 => (evE C i ρ h1).st ρ fun y h2 => match setop x y v h2 with | some h3 => .nx ρ h3 | none => .no
mutual
noncomputable def exS (C : Calls) : S → Env → PH → RS
  | .asg g e, ρ, h => (evE C e ρ h).st ρ fun v h1 => stTg C g v ρ h1
  | .aug i op e, ρ, h => match ρ.get i with
    | some x => (evE C e ρ h).st ρ fun y h1 => (iopF op x y h1).st ρ fun z h2 => .nx (ρ.set i (some z)) h2
    | none => .no
  | .augs o i op e, ρ, h => (evE C o ρ h).st ρ fun ov h1 => (evE C i ρ h1).st ρ fun iv h2 => (getL ov iv h2).st ρ fun x h3 => (evE C e ρ h3).st ρ fun y h4 => (iopF op x y h4).st ρ fun z h5 => match setop ov iv z h5 with | some h6 => .nx ρ h6 | none => .no
  | .ifs t a b, ρ, h => (evT C t ρ h).st ρ fun c h1 => if c then exSs C a ρ h1 else exSs C b ρ h1
  | .whl t b, ρ, h => whileF (fun ρ h => evT C t ρ h) (fun ρ h => exSs C b ρ h) ρ h
  | .fr tg one k its b, ρ, h => (evGs C its ρ h).st ρ fun l h1 => match walkF k l h1 with
      | some (items, kp) => forLoop kp (fun ρ x => setTg ρ tg one x) (fun ρ h => exSs C b ρ h) items ρ h1
      | none => .no
  | .ret e, ρ, h => (evE C e ρ h).st ρ fun v h1 => .rt v h1
  | .ret0, _, h => .rt .non h
  | .ex e, ρ, h => (evE C e ρ h).st ρ fun _ h1 => .nx ρ h1
  | .pass, ρ, h => .nx ρ h
  | .brk, ρ, h => .bk ρ h
  | .cont, ρ, h => .ct ρ h
  | .raise _, _, _ => .no
noncomputable def exSs (C : Calls) : List S → Env → PH → RS
  | [], ρ, h => .nx ρ h
  | s :: r, ρ, h => (exS C s ρ h).seq fun ρ1 h1 => exSs C r ρ1 h1
end
/-- a def's body at its arguments -/
def startP (ns : Nat) (vs : List PV) : Env := vs.map some ++ List.replicate (ns - vs.length) none
def RS.toR : RS → R PV
  | .nx _ h => .ok .non h
  | .rt v h => .ok v h
  | .ex x _ h => .ex x h
  | _ => .no
noncomputable def runFn (C : Calls) (f : Fn) (vs : List PV) (h : PH) : R PV := if vs.length = f.np then (exSs C f.body (startP f.ns vs) h).toR else .no
noncomputable def call (tbl : Nat → Fn) : Nat → Calls
  | 0 => fun _ _ _ => .no
  | k + 1 => fun f vs h => runFn (call tbl k) (tbl f) vs h
end Sb

set_option Elab.async false
set_option linter.all false
set_option maxRecDepth 100000
set_option maxHeartbeats 4000000
/-! Sb: how plain values and heaps lie in the abstract heap of the layer. -/
namespace Sb
open PySem L2

/-- a list, a tuple of the written part -/
def KL (K : PySem.W.Frag) (a : Addr) (xs : List V) : Prop := ∃ (o : Obj) (its : Array Value) (n : Nat), K.lookup a = some o ∧ o.cls = .type "list" ∧ o.dict = none ∧ o.data = .seq its n ∧ its.size ≤ sizeLine ∧ Vals xs its.toList
def KT (K : PySem.W.Frag) (a : Addr) (xs : List V) : Prop := ∃ (o : Obj) (its : Array Value) (n : Nat), K.lookup a = some o ∧ o.cls = .type "tuple" ∧ o.data = .seq its n ∧ its.size ≤ sizeLine ∧ Vals xs its.toList
def LstAt (K : PySem.W.Frag) (φ : List Addr) (H : Hp) (a : Addr) (xs : List V) : Prop := ((∃ o, H a = some (.frz o (.lst xs))) ∧ a ∉ φ) ∨ KL K a xs
def TupAt (K : PySem.W.Frag) (φ : List Addr) (H : Hp) (a : Addr) (xs : List V) : Prop := (Rd H a (.tup xs) ∧ a ∉ φ) ∨ KT K a xs
theorem LstAt.sq {K : PySem.W.Frag} {φ : List Addr} {H : Hp} {a : Addr} {xs : List V} (h : LstAt K φ H a xs) : SqL K H a xs := h.elim (fun z => .inl (.inr z.1)) .inr
theorem TupAt.sq {K : PySem.W.Frag} {φ : List Addr} {H : Hp} {a : Addr} {xs : List V} (h : TupAt K φ H a xs) : SqT K H a xs := h.elim (fun z => .inl z.1) .inr

mutual
def RV (K : PySem.W.Frag) (φ : List Addr) (H : Hp) : PV → V → Prop
  | .non, v => v = .non
  | .bl b, v => v = .bl b
  | .int i, v => v = .int i
  | .str x, v => v = .str x
  | .ty t, v => v = .ty t.nm
  | .ref n, v => ∃ a, v = .ref a ∧ φ[n]? = some a
  | .tup l, v => ∃ a vs, v = .ref a ∧ TupAt K φ H a vs ∧ RVs K φ H l vs
  | .cl l, v => ∃ a vs, v = .ref a ∧ LstAt K φ H a vs ∧ RVs K φ H l vs
def RVs (K : PySem.W.Frag) (φ : List Addr) (H : Hp) : List PV → List V → Prop
  | [], vs => vs = []
  | p :: ps, vs => ∃ v r, vs = v :: r ∧ RV K φ H p v ∧ RVs K φ H ps r
end
def RO (K : PySem.W.Frag) (φ : List Addr) (H : Hp) : PO → HO → Prop
  | .lst l, o => ∃ vs, o = .lst vs ∧ RVs K φ H l vs

/-- the plain heap h lies at the addresses φ -/
structure Sim (K : PySem.W.Frag) (φ : List Addr) (h : PH) (H : Hp) : Prop where
  len : φ.length = h.length
  nd : φ.Nodup
  ob : ∀ (n : Nat) (o : PO), h[n]? = some o → ∃ a ho, φ[n]? = some a ∧ H a = some ho ∧ RO K φ H o ho
/-- what may have changed: the objects at φ, and new ones -/
structure Ext (φ φ' : List Addr) (H H' : Hp) : Prop where
  pre : ∃ t, φ' = φ ++ t
  keep : ∀ a o, H a = some o → a ∉ φ → H' a = some o
  fresh : ∀ a, a ∈ φ' → a ∉ φ → H a = none
theorem Ext.refl (φ : List Addr) (H : Hp) : Ext φ φ H H := ⟨⟨[], by simp⟩, fun _ _ e _ => e, fun _ h n => absurd h n⟩
theorem Ext.mem {φ φ' : List Addr} {H H' : Hp} (x : Ext φ φ' H H') {a : Addr} (h : a ∈ φ) : a ∈ φ' := by
  obtain ⟨t, e⟩ := x.pre
  rw [e]
  exact List.mem_append_left _ h
theorem Ext.trans {φ φ1 φ2 : List Addr} {H H1 H2 : Hp} (x : Ext φ φ1 H H1) (y : Ext φ1 φ2 H1 H2) : Ext φ φ2 H H2 := by
  obtain ⟨t, e⟩ := x.pre
  obtain ⟨u, e'⟩ := y.pre
  refine ⟨⟨t ++ u, by rw [e', e, List.append_assoc]⟩, fun a o q n => ?_, fun a h n => ?_⟩
  · refine y.keep a o (x.keep a o q n) fun z => ?_
    have := x.fresh a z n
    rw [q] at this
    cases this
  · by_cases z : a ∈ φ1
    · exact x.fresh a z n
    · cases q : H a with
      | none => rfl
      | some o =>
        have := y.fresh a h z
        rw [x.keep a o q n] at this
        cases this
theorem Ext.at {φ φ' : List Addr} {H H' : Hp} (x : Ext φ φ' H H') {n : Nat} {a : Addr} (h : φ[n]? = some a) : φ'[n]? = some a := by
  obtain ⟨t, e⟩ := x.pre
  rw [e, List.getElem?_append_left (List.getElem?_eq_some_iff.mp h).1]
  exact h
theorem Ext.rd {φ φ' : List Addr} {H H' : Hp} (x : Ext φ φ' H H') {a : Addr} {u : HO} (h : Rd H a u) (n : a ∉ φ) : Rd H' a u ∧ a ∉ φ' := by
  have there : ∀ o, H a = some o → H' a = some o ∧ a ∉ φ' := fun o q => ⟨x.keep a o q n, fun z => by
    have := x.fresh a z n
    rw [q] at this
    cases this⟩
  rcases h with h | ⟨o, h⟩
  · exact ⟨.inl (there _ h).1, (there _ h).2⟩
  · exact ⟨.inr ⟨o, (there _ h).1⟩, (there _ h).2⟩
/-- what plain values lean on: tuples and locked things stay, places stay -/
def isFix : HO → Bool
  | .tup _ => true
  | .frz _ _ => true
  | _ => false
structure Kp (φ φ' : List Addr) (H H' : Hp) : Prop where
  pl : ∀ (n : Nat) (a : Addr), φ[n]? = some a → φ'[n]? = some a
  fx : ∀ a o, isFix o = true → H a = some o → a ∉ φ → H' a = some o ∧ a ∉ φ'
theorem Ext.kp {φ φ' : List Addr} {H H' : Hp} (x : Ext φ φ' H H') : Kp φ φ' H H' := ⟨fun _ _ => x.at, fun a o _ e n => ⟨x.keep a o e n, fun m => by
  have := x.fresh a m n
  rw [e] at this
  cases this⟩⟩
section
variable {K : PySem.W.Frag} {φ φ' : List Addr} {H H' : Hp}
theorem TupAt.monoK {a : Addr} {xs : List V} (x : Kp φ φ' H H') (h : TupAt K φ H a xs) : TupAt K φ' H' a xs := by
  rcases h with ⟨q | ⟨o, q⟩, n⟩ | h
  · exact .inl ⟨.inl (x.fx a _ rfl q n).1, (x.fx a _ rfl q n).2⟩
  · exact .inl ⟨.inr ⟨o, (x.fx a _ rfl q n).1⟩, (x.fx a _ rfl q n).2⟩
  · exact .inr h
theorem LstAt.monoK {a : Addr} {xs : List V} (x : Kp φ φ' H H') (h : LstAt K φ H a xs) : LstAt K φ' H' a xs := by
  rcases h with ⟨⟨o, q⟩, n⟩ | h
  · exact .inl ⟨⟨o, (x.fx a _ rfl q n).1⟩, (x.fx a _ rfl q n).2⟩
  · exact .inr h
theorem TupAt.mono {a : Addr} {xs : List V} (x : Ext φ φ' H H') (h : TupAt K φ H a xs) : TupAt K φ' H' a xs := h.monoK x.kp
theorem LstAt.mono {a : Addr} {xs : List V} (x : Ext φ φ' H H') (h : LstAt K φ H a xs) : LstAt K φ' H' a xs := h.monoK x.kp
mutual
theorem RV.monoK (x : Kp φ φ' H H') : ∀ {p : PV} {v : V}, RV K φ H p v → RV K φ' H' p v
  | .non, _, h => h
  | .bl _, _, h => h
  | .int _, _, h => h
  | .str _, _, h => h
  | .ty _, _, h => h
  | .ref n, v, h => by
    obtain ⟨a, e, q⟩ := h
    exact ⟨a, e, x.pl n a q⟩
  | .tup l, v, h => by
    obtain ⟨a, vs, e, q, r⟩ := h
    exact ⟨a, vs, e, q.monoK x, RVs.monoK x r⟩
  | .cl l, v, h => by
    obtain ⟨a, vs, e, q, r⟩ := h
    exact ⟨a, vs, e, q.monoK x, RVs.monoK x r⟩
theorem RVs.monoK (x : Kp φ φ' H H') : ∀ {p : List PV} {v : List V}, RVs K φ H p v → RVs K φ' H' p v
  | [], _, h => h
  | p :: ps, vs, h => by
    obtain ⟨v, r, e, q, s⟩ := h
    exact ⟨v, r, e, RV.monoK x q, RVs.monoK x s⟩
end
theorem RV.mono (x : Ext φ φ' H H') {p : PV} {v : V} (h : RV K φ H p v) : RV K φ' H' p v := h.monoK x.kp
theorem RVs.mono (x : Ext φ φ' H H') {p : List PV} {v : List V} (h : RVs K φ H p v) : RVs K φ' H' p v := h.monoK x.kp
theorem RO.monoK (x : Kp φ φ' H H') {o : PO} {ho : HO} (h : RO K φ H o ho) : RO K φ' H' o ho := by
  cases o with
  | lst l =>
    obtain ⟨vs, e, r⟩ := h
    exact ⟨vs, e, r.monoK x⟩
theorem RO.mono (x : Ext φ φ' H H') {o : PO} {ho : HO} (h : RO K φ H o ho) : RO K φ' H' o ho := h.monoK x.kp
theorem RVs.nil : RVs K φ H [] [] := rfl
theorem RVs.cons {p : PV} {v : V} {ps : List PV} {vs : List V} (h : RV K φ H p v) (r : RVs K φ H ps vs) : RVs K φ H (p :: ps) (v :: vs) := ⟨v, vs, rfl, h, r⟩
theorem RVs.length : ∀ {ps : List PV} {vs : List V}, RVs K φ H ps vs → ps.length = vs.length
  | [], vs, h => by
    have e : vs = [] := h
    rw [e]
    rfl
  | p :: ps, vs, h => by
    obtain ⟨v, r, e, _, s⟩ := h
    rw [e, List.length_cons, List.length_cons, RVs.length s]
theorem RVs.get : ∀ {ps : List PV} {vs : List V} {i : Nat} {p : PV}, RVs K φ H ps vs → ps[i]? = some p → ∃ v, vs[i]? = some v ∧ RV K φ H p v
  | [], _, _, _, _, e => by simp at e
  | p :: ps, vs, 0, q, h, e => by
    obtain ⟨v, r, e', s, _⟩ := h
    simp at e
    subst e
    exact ⟨v, by rw [e']; rfl, s⟩
  | p :: ps, vs, i + 1, q, h, e => by
    obtain ⟨v, r, e', _, s⟩ := h
    obtain ⟨w, f, g⟩ := RVs.get (i := i) s (by simpa using e)
    exact ⟨w, by rw [e']; simpa using f, g⟩
theorem RVs.append : ∀ {ps qs : List PV} {vs ws : List V}, RVs K φ H ps vs → RVs K φ H qs ws → RVs K φ H (ps ++ qs) (vs ++ ws)
  | [], _, vs, _, h, r => by
    rw [show vs = [] from h]
    exact r
  | p :: ps, qs, vs, ws, h, r => by
    obtain ⟨v, t, e, q, s⟩ := h
    rw [e]
    exact ⟨v, t ++ ws, rfl, q, RVs.append s r⟩
theorem RVs.set : ∀ {ps : List PV} {vs : List V} {p : PV} {v : V} (i : Nat), RV K φ H p v → RVs K φ H ps vs → RVs K φ H (ps.set i p) (vs.set i v)
  | [], vs, _, _, _, _, h => by
    rw [show vs = [] from h]
    exact rfl
  | q :: ps, vs, p, v, 0, hp, h => by
    obtain ⟨w, t, e, q, s⟩ := h
    rw [e]
    exact ⟨v, t, rfl, hp, s⟩
  | q :: ps, vs, p, v, i + 1, hp, h => by
    obtain ⟨w, t, e, q, s⟩ := h
    rw [e]
    exact ⟨w, t.set i v, rfl, q, RVs.set i hp s⟩
theorem RVs.erase : ∀ {ps : List PV} {vs : List V} (i : Nat), RVs K φ H ps vs → RVs K φ H (ps.eraseIdx i) (vs.eraseIdx i)
  | [], vs, _, h => by
    rw [show vs = [] from h]
    exact rfl
  | q :: ps, vs, 0, h => by
    obtain ⟨w, t, e, q, s⟩ := h
    rw [e]
    exact s
  | q :: ps, vs, i + 1, h => by
    obtain ⟨w, t, e, q, s⟩ := h
    rw [e]
    exact ⟨w, t.eraseIdx i, rfl, q, RVs.erase i s⟩
theorem RVs.take : ∀ {ps : List PV} {vs : List V} (i : Nat), RVs K φ H ps vs → RVs K φ H (ps.take i) (vs.take i)
  | _, _, 0, _ => by rw [List.take_zero, List.take_zero]; exact rfl
  | [], vs, i + 1, h => by
    rw [show vs = [] from h]
    exact rfl
  | q :: ps, vs, i + 1, h => by
    obtain ⟨w, t, e, q, s⟩ := h
    rw [e]
    exact ⟨w, t.take i, rfl, q, RVs.take i s⟩
theorem RVs.drop : ∀ {ps : List PV} {vs : List V} (i : Nat), RVs K φ H ps vs → RVs K φ H (ps.drop i) (vs.drop i)
  | _, _, 0, h => h
  | [], vs, i + 1, h => by
    rw [show vs = [] from h]
    exact rfl
  | q :: ps, vs, i + 1, h => by
    obtain ⟨w, t, e, q, s⟩ := h
    rw [e]
    exact RVs.drop i s
/-- all is as it was at φ, and the plain heap the same -/
theorem Sim.mem {h : PH} (s : Sim K φ h H) {a : Addr} (m : a ∈ φ) : ∃ ho, H a = some ho := by
  obtain ⟨n, hn, e⟩ := List.mem_iff_getElem.mp m
  have hn' : n < h.length := by rw [← s.len]; exact hn
  obtain ⟨a', ho, e1, e2, _⟩ := s.ob n h[n] (List.getElem?_eq_getElem hn')
  rw [List.getElem?_eq_getElem hn] at e1
  have : a = a' := by rw [← e]; exact Option.some.inj e1
  exact ⟨ho, by rw [this]; exact e2⟩
theorem Sim.out {h : PH} (s : Sim K φ h H) {a : Addr} (n : H a = none) : a ∉ φ := fun m => by
  obtain ⟨ho, e⟩ := s.mem m
  rw [n] at e
  cases e
/-- a new thing that is not of the plain heap -/
theorem Ext.new {p : Addr} {o : HO} (n : H p = none) : Ext φ φ H (upd H p o) := ⟨⟨[], by simp⟩, fun a u e _ => by rw [upd_ne (ne_of_none e n)]; exact e, fun _ h z => absurd h z⟩
theorem Sim.new {h : PH} {p : Addr} {o : HO} (s : Sim K φ h H) (n : H p = none) : Sim K φ h (upd H p o) := ⟨s.len, s.nd, fun m u e => by
  obtain ⟨a, ho, e1, e2, r⟩ := s.ob m u e
  exact ⟨a, ho, e1, by rw [upd_ne (ne_of_none e2 n)]; exact e2, r.mono (Ext.new n)⟩⟩
/-- a new list of the plain heap -/
theorem Ext.push {p : Addr} {o : HO} (n : H p = none) : Ext φ (φ ++ [p]) H (upd H p o) := ⟨⟨[p], rfl⟩, fun a u e _ => by rw [upd_ne (ne_of_none e n)]; exact e, fun a h z => by
  rcases List.mem_append.mp h with h | h
  · exact absurd h z
  · rw [List.mem_singleton.mp h]
    exact n⟩
theorem Sim.push {h : PH} {p : Addr} {l : List PV} {vs : List V} (s : Sim K φ h H) (n : H p = none) (r : RVs K φ H l vs) : Sim K (φ ++ [p]) (h ++ [.lst l]) (upd H p (.lst vs)) := by
  have x : Ext φ (φ ++ [p]) H (upd H p (.lst vs)) := Ext.push n
  refine ⟨by rw [List.length_append, List.length_append, s.len]; rfl, ?_, fun m u e => ?_⟩
  · rw [List.nodup_append]
    refine ⟨s.nd, by simp, fun a ha b hb => ?_⟩
    rw [List.mem_singleton.mp hb]
    intro z
    exact s.out n (z ▸ ha)
  · by_cases hm : m < h.length
    · rw [List.getElem?_append_left hm] at e
      obtain ⟨a, ho, e1, e2, r'⟩ := s.ob m u e
      exact ⟨a, ho, x.at e1, by rw [upd_ne (ne_of_none e2 n)]; exact e2, r'.mono x⟩
    · have em : m = h.length := by
        have := (List.getElem?_eq_some_iff.mp e).1
        rw [List.length_append] at this
        simp at this
        omega
      subst em
      rw [List.getElem?_append_right (Nat.le_refl _), Nat.sub_self] at e
      have eu : PO.lst l = u := Option.some.inj e
      subst eu
      refine ⟨p, .lst vs, ?_, upd_same, vs, rfl, r.mono x⟩
      rw [List.getElem?_append_right (by rw [s.len]; exact Nat.le_refl _), s.len, Nat.sub_self]
      rfl
/-- a list of the plain heap is changed -/
theorem Ext.write {a : Addr} {o : HO} (m : a ∈ φ) : Ext φ φ H (upd H a o) := ⟨⟨[], by simp⟩, fun b u e n => by
  have z : b ≠ a := fun z => n (by rw [z]; exact m)
  rw [upd_ne z]
  exact e, fun _ h z => absurd h z⟩
theorem Sim.write {h : PH} {n : Nat} {a : Addr} {l : List PV} {vs : List V} (s : Sim K φ h H) (e : φ[n]? = some a) (r : RVs K φ H l vs) : Sim K φ (h.set n (.lst l)) (upd H a (.lst vs)) := by
  have x : Ext φ φ H (upd H a (.lst vs)) := Ext.write (List.mem_of_getElem? e)
  refine ⟨by rw [List.length_set, s.len], s.nd, fun m u q => ?_⟩
  by_cases hm : m = n
  · subst hm
    have hl : m < h.length := by
      have := (List.getElem?_eq_some_iff.mp e).1
      rw [← s.len]
      exact this
    rw [List.getElem?_set_self hl] at q
    have eu : PO.lst l = u := Option.some.inj q
    subst eu
    exact ⟨a, .lst vs, e, upd_same, vs, rfl, r.mono x⟩
  · rw [List.getElem?_set_ne (Ne.symm hm)] at q
    obtain ⟨b, ho, e1, e2, r'⟩ := s.ob m u q
    refine ⟨b, ho, e1, ?_, r'.mono x⟩
    rw [upd_ne]
    · exact e2
    · intro z
      subst z
      exact hm (nodup_at s.nd e1 e)
where
  nodup_at {l : List Addr} (nd : l.Nodup) {i j : Nat} {x : Addr} (a : l[i]? = some x) (b : l[j]? = some x) : i = j := by
    obtain ⟨h1, e1⟩ := List.getElem?_eq_some_iff.mp a
    obtain ⟨h2, e2⟩ := List.getElem?_eq_some_iff.mp b
    exact (List.getElem_inj nd).mp (e1.trans e2.symm)
/-- a list that is not of the plain heap -/
theorem Kp.aside {D : Addr} {ws ws' : List V} (e : H D = some (.lst ws)) : Kp φ φ H (upd H D (.lst ws')) := ⟨fun _ _ q => q, fun a o f q n => ⟨by
  rw [upd_ne (fun z => by
    subst z
    rw [e] at q
    cases q
    cases f)]
  exact q, n⟩⟩
theorem Sim.aside {h : PH} {D : Addr} {ws ws' : List V} (s : Sim K φ h H) (e : H D = some (.lst ws)) (n : D ∉ φ) : Sim K φ h (upd H D (.lst ws')) := ⟨s.len, s.nd, fun m u q => by
  obtain ⟨a, ho, e1, e2, r⟩ := s.ob m u q
  refine ⟨a, ho, e1, ?_, r.monoK (Kp.aside e)⟩
  rw [upd_ne (fun z => n (by rw [← z]; exact List.mem_of_getElem? e1))]
  exact e2⟩
theorem Ext.aside {D : Addr} {o : HO} (x : Ext φ φ' H H') (n : H D = none) : Ext φ φ' H (upd H' D o) := ⟨x.pre, fun a u e m => by
  rw [upd_ne (ne_of_none e n)]
  exact x.keep a u e m, x.fresh⟩
/-- .. it becomes one of the plain heap -/
theorem Kp.adopt {D : Addr} {ws : List V} (e : H D = some (.lst ws)) : Kp φ (φ ++ [D]) H H := ⟨fun n a q => by
  rw [List.getElem?_append_left (List.getElem?_eq_some_iff.mp q).1]
  exact q, fun a o f q n => ⟨q, fun m => by
  rcases List.mem_append.mp m with z | z
  · exact n z
  · rw [List.mem_singleton.mp z, e] at q
    cases q
    cases f⟩⟩
theorem Sim.adopt {h : PH} {D : Addr} {l : List PV} {ws : List V} (s : Sim K φ h H) (e : H D = some (.lst ws)) (n : D ∉ φ) (r : RVs K φ H l ws) : Sim K (φ ++ [D]) (h ++ [.lst l]) H := by
  have x : Kp φ (φ ++ [D]) H H := Kp.adopt e
  refine ⟨by rw [List.length_append, List.length_append, s.len]; rfl, ?_, fun m u q => ?_⟩
  · rw [List.nodup_append]
    refine ⟨s.nd, by simp, fun a ha b hb => ?_⟩
    rw [List.mem_singleton.mp hb]
    intro z
    exact n (z ▸ ha)
  · by_cases hm : m < h.length
    · rw [List.getElem?_append_left hm] at q
      obtain ⟨a, ho, e1, e2, r'⟩ := s.ob m u q
      exact ⟨a, ho, x.pl m a e1, e2, r'.monoK x⟩
    · have em : m = h.length := by
        have := (List.getElem?_eq_some_iff.mp q).1
        rw [List.length_append] at this
        simp at this
        omega
      subst em
      rw [List.getElem?_append_right (Nat.le_refl _), Nat.sub_self] at q
      have eu : PO.lst l = u := Option.some.inj q
      subst eu
      refine ⟨D, .lst ws, ?_, e, ws, rfl, r.monoK x⟩
      rw [List.getElem?_append_right (by rw [s.len]; exact Nat.le_refl _), s.len, Nat.sub_self]
      rfl
theorem Ext.adopt {D : Addr} (x : Ext φ φ' H H') (n : H D = none) : Ext φ (φ' ++ [D]) H H' := ⟨by
  obtain ⟨t, e⟩ := x.pre
  exact ⟨t ++ [D], by rw [e, List.append_assoc]⟩, x.keep, fun a m z => by
  rcases List.mem_append.mp m with q | q
  · exact x.fresh a q z
  · rw [List.mem_singleton.mp q]
    exact n⟩
theorem Sim.lst {h : PH} {n : Nat} {l : List PV} (s : Sim K φ h H) (e : h[n]? = some (.lst l)) : ∃ a vs, φ[n]? = some a ∧ H a = some (.lst vs) ∧ RVs K φ H l vs := by
  obtain ⟨a, ho, e1, e2, vs, e3, r⟩ := s.ob n _ e
  subst e3
  exact ⟨a, vs, e1, e2, r⟩
/-- what a list, a tuple is in the abstract heap -/
theorem Sim.listV {h : PH} {p : PV} {v : V} {l : List PV} (s : Sim K φ h H) (r : RV K φ H p v) (e : listOf h p = some l) : ∃ a vs, v = .ref a ∧ SqL K H a vs ∧ RVs K φ H l vs := by
  cases p with
  | cl l' =>
    obtain ⟨a, vs, e1, q, r'⟩ := r
    cases e
    exact ⟨a, vs, e1, q.sq, r'⟩
  | ref n =>
    obtain ⟨a, e1, e2⟩ := r
    unfold listOf at e
    cases q : h[n]? with
    | none => simp only [q] at e; cases e
    | some o =>
      cases o with
      | lst l' =>
        simp only [q] at e
        cases e
        obtain ⟨a', vs, e3, e4, r'⟩ := s.lst q
        rw [e2] at e3
        cases e3
        exact ⟨a, vs, e1, SqL.of e4, r'⟩
  | _ => cases e
theorem Sim.seqV {h : PH} {p : PV} {v : V} {l : List PV} (s : Sim K φ h H) (r : RV K φ H p v) (e : seqOf h p = some l) : ∃ a vs, v = .ref a ∧ (SqL K H a vs ∨ SqT K H a vs) ∧ RVs K φ H l vs := by
  cases p with
  | tup l' =>
    obtain ⟨a, vs, e1, q, r'⟩ := r
    cases e
    exact ⟨a, vs, e1, .inr q.sq, r'⟩
  | cl l' =>
    obtain ⟨a, vs, e1, q, r'⟩ := s.listV (l := l) r e
    exact ⟨a, vs, e1, .inl q, r'⟩
  | ref n =>
    obtain ⟨a, vs, e1, q, r'⟩ := s.listV (l := l) r e
    exact ⟨a, vs, e1, .inl q, r'⟩
  | _ => cases e
end

/-! ### names -/
def RE (K : PySem.W.Frag) (φ : List Addr) (H : Hp) : Env → St → Prop
  | [], σ => σ = []
  | p :: ρ, σ => ∃ v r, σ = v :: r ∧ (∀ x, p = some x → ∃ y, v = some y ∧ RV K φ H x y) ∧ RE K φ H ρ r
section
variable {K : PySem.W.Frag} {φ φ' : List Addr} {H H' : Hp}
theorem RE.mono (x : Ext φ φ' H H') : ∀ {ρ : Env} {σ : St}, RE K φ H ρ σ → RE K φ' H' ρ σ
  | [], _, h => h
  | p :: ρ, σ, h => by
    obtain ⟨v, r, e, q, s⟩ := h
    exact ⟨v, r, e, fun y z => by
      obtain ⟨w, e1, e2⟩ := q y z
      exact ⟨w, e1, e2.mono x⟩, RE.mono x s⟩
theorem RE.get : ∀ {ρ : Env} {σ : St} {i : Nat} {p : PV}, RE K φ H ρ σ → ρ[i]? = some (some p) → ∃ v, σ[i]? = some (some v) ∧ RV K φ H p v
  | [], _, _, _, _, e => by simp at e
  | q :: ρ, σ, 0, p, h, e => by
    obtain ⟨v, r, e1, k, s⟩ := h
    simp at e
    obtain ⟨w, e2, e3⟩ := k p e
    exact ⟨w, by rw [e1, e2]; rfl, e3⟩
  | q :: ρ, σ, i + 1, p, h, e => by
    obtain ⟨v, r, e1, k, s⟩ := h
    obtain ⟨w, e2, e3⟩ := RE.get (i := i) s (by simpa using e)
    exact ⟨w, by rw [e1]; simpa using e2, e3⟩
theorem RE.set : ∀ {ρ : Env} {σ : St} {p : PV} {v : V} (i : Nat), RV K φ H p v → RE K φ H ρ σ → RE K φ H (ρ.set i (some p)) (σ.set i (some v))
  | [], σ, _, _, _, _, h => by
    rw [show σ = [] from h]
    exact rfl
  | q :: ρ, σ, p, v, 0, hp, h => by
    obtain ⟨w, r, e1, k, s⟩ := h
    rw [e1]
    exact ⟨some v, r, rfl, fun x e => ⟨v, rfl, by cases e; exact hp⟩, s⟩
  | q :: ρ, σ, p, v, i + 1, hp, h => by
    obtain ⟨w, r, e1, k, s⟩ := h
    rw [e1]
    exact ⟨w, r.set i (some v), rfl, k, RE.set i hp s⟩
theorem RE.unset : ∀ {ρ : Env} {σ : St} (i : Nat), RE K φ H ρ σ → RE K φ H (ρ.set i none) (σ.set i none)
  | [], σ, _, h => by
    rw [show σ = [] from h]
    exact rfl
  | q :: ρ, σ, 0, h => by
    obtain ⟨w, r, e1, k, s⟩ := h
    rw [e1]
    exact ⟨none, r, rfl, fun x e => (by cases e), s⟩
  | q :: ρ, σ, i + 1, h => by
    obtain ⟨w, r, e1, k, s⟩ := h
    rw [e1]
    exact ⟨w, r.set i none, rfl, k, RE.unset i s⟩
theorem RE.wipe {ρ : Env} {σ : St} (h : RE K φ H ρ σ) : ∀ is : List Nat, RE K φ H (wipeP ρ is) (L2.wipe σ is)
  | [] => h
  | i :: is => (RE.wipe h is).unset i
theorem RE.setAll : ∀ {is : List Nat} {l : List PV} {vs : List V} {ρ ρ' : Env} {σ : St}, RE K φ H ρ σ → RVs K φ H l vs → setAll ρ is l = some ρ' → ∃ σ', RE K φ H ρ' σ' ∧ σ' = (is.zip vs).foldl (fun s p => s.set p.1 (some p.2)) σ ∧ is.length = vs.length
  | [], [], vs, ρ, ρ', σ, h, r, e => by
    cases e
    have : vs = [] := r
    subst this
    exact ⟨σ, h, rfl, rfl⟩
  | i :: is, p :: l, vs, ρ, ρ', σ, h, r, e => by
    obtain ⟨v, t, e1, q, s⟩ := r
    subst e1
    obtain ⟨σ', h1, h2, h3⟩ := RE.setAll (is := is) (h.set i q) s e
    exact ⟨σ', h1, h2, by rw [List.length_cons, List.length_cons, h3]⟩
  | [], _ :: _, _, _, _, _, _, _, e => by cases e
  | _ :: _, [], _, _, _, _, _, _, e => by cases e
end
end Sb

set_option Elab.async false
set_option linter.all false
set_option maxRecDepth 100000
set_option maxHeartbeats 4000000
/-! Sb: what an end of the interpreter is worth in the layer; operators and built-ins. -/
namespace Sb
open PySem PySem.Spec PyProof.Rows L2

/-- how an exception lies: its class, its own dict -/
def RX (K : PySem.W.Frag) (mg : Str → Option Value) (φ : List Addr) (H : Hp) (x : Exn) (cls : Value) (d : Option Addr) : Prop :=
  mg (Str.ofString x.cls) = some cls ∧ ((x.fields = [] ∧ d = none) ∨ ∃ da fs, d = some da ∧ H da = some (.xd fs) ∧ da ∉ φ ∧ fs.map (·.1) = x.fields.map (fun p => Str.ofString p.1) ∧ RVs K φ H (x.fields.map (·.2)) (fs.map (·.2)))
/-- rel: how a plain answer lies; W: what is wanted of an exception; Q: what is wanted of the answer -/
def Out (K : PySem.W.Frag) (mg : Str → Option Value) {α β : Type} (rel : List Addr → Hp → α → β → Prop) (φ : List Addr) (H : Hp) (W : XK) (Q : β → Hp → Prop) : R α → Prop
  | .ok a h => ∀ φ' H' b, Ext φ φ' H H' → Sim K φ' h H' → rel φ' H' a b → Q b H'
  | .ex x h => ∀ φ' H' cls d, Ext φ φ' H H' → Sim K φ' h H' → RX K mg φ' H' x cls d → W cls d H'
  | .no => False
section
variable {K : PySem.W.Frag} {mg : Str → Option Value} {α β γ δ : Type} {rel : List Addr → Hp → α → β → Prop} {rel2 : List Addr → Hp → γ → δ → Prop} {φ φ' : List Addr} {H H' : Hp} {W : XK} {Q Q' : β → Hp → Prop}
theorem Out.mono (x : Ext φ φ' H H') : ∀ {m : R α}, Out K mg rel φ H W Q m → Out K mg rel φ' H' W Q m
  | .ok _ _, h => fun φ2 H2 b y s r => h φ2 H2 b (x.trans y) s r
  | .ex _ _, h => fun φ2 H2 c d y s r => h φ2 H2 c d (x.trans y) s r
  | .no, h => h
theorem Out.imp (f : ∀ b H', Q b H' → Q' b H') : ∀ {m : R α}, Out K mg rel φ H W Q m → Out K mg rel φ H W Q' m
  | .ok _ _, h => fun φ2 H2 b y s r => f _ _ (h φ2 H2 b y s r)
  | .ex _ _, h => h
  | .no, h => h
/-- one thing after another -/
theorem Out.bind {m : R γ} {f : γ → PH → R α} (h : Out K mg rel φ H W Q (m.bind f)) :
    Out K mg rel2 φ H W (fun b H' => ∃ φ' a h1, Ext φ φ' H H' ∧ Sim K φ' h1 H' ∧ rel2 φ' H' a b ∧ Out K mg rel φ' H' W Q (f a h1)) m := by
  cases m with
  | ok a h1 => exact fun φ' H' b x s r => ⟨φ', a, h1, x, s, r, h.mono x⟩
  | ex x h1 => exact h
  | no => exact h
/-- the answer is there -/
theorem Out.at {a : α} {h : PH} {b : β} (o : Out K mg rel φ H W Q (.ok a h)) (s : Sim K φ h H) (r : rel φ H a b) : Q b H := o φ H b (Ext.refl _ _) s r
theorem Out.some {o : Option α} {h : PH} (q : Out K mg rel φ H W Q (ofO o h)) : ∃ a, o = .some a ∧ Out K mg rel φ H W Q (.ok a h) := by
  cases o with
  | none => exact q.elim
  | some a => exact ⟨a, rfl, q⟩
end
/-- an answer that is the thing itself -/
def RI {α : Type} (_ : List Addr) (_ : Hp) (a b : α) : Prop := a = b

theorem line_ok {n : Nat} (h : lineOk n = true) : n ≤ sizeLine := by
  have e : n ≤ 1000000 := of_decide_eq_true h
  have := sizeLine_eq
  omega
theorem line_lt {n : Nat} (h : lineOk (n + 1) = true) : n < sizeLine := by
  have e : n + 1 ≤ 1000000 := of_decide_eq_true h
  have := sizeLine_eq
  omega

/-! ### operators by values -/
def rOp (K : PySem.W.Frag) (mg : Str → Option Value) (W : XK) (f : PV → PV → PH → R PV) : R2 := fun x y H Q => ∃ φ h a b, Sim K φ h H ∧ RV K φ H a x ∧ RV K φ H b y ∧ Out K mg (RV K) φ H W Q (f a b h)
/-- a new list -/
theorem Out.alloc {K : PySem.W.Frag} {mg : Str → Option Value} {φ : List Addr} {H : Hp} {W : XK} {Q : VK} {h : PH} {l : List PV} {vs : List V} (s : Sim K φ h H) (r : RVs K φ H l vs) (o : Out K mg (RV K) φ H W Q (.ok (.ref h.length) (h ++ [.lst l]))) :
    ∀ p, H p = none → Q (.ref p) (upd H p (.lst vs)) := fun p n => o (φ ++ [p]) _ (.ref p) (Ext.push n) (s.push n r) ⟨p, rfl, by
  rw [← s.len, List.getElem?_append_right (Nat.le_refl _), Nat.sub_self]
  rfl⟩
/-- a new tuple -/
theorem Out.tupn {K : PySem.W.Frag} {mg : Str → Option Value} {φ : List Addr} {H : Hp} {W : XK} {Q : VK} {h : PH} {l : List PV} {vs : List V} (s : Sim K φ h H) (r : RVs K φ H l vs) (o : Out K mg (RV K) φ H W Q (.ok (.tup l) h)) :
    ∀ p, H p = none → Q (.ref p) (upd H p (.tup vs)) := fun p n => o φ _ (.ref p) (Ext.new n) (s.new n) ⟨p, vs, rfl, .inl ⟨.inl upd_same, s.out n⟩, r.mono (Ext.new n)⟩
section
variable {X : Cx} {W : XK}
theorem op_fdivNW : OpR X (binaryOp .FloorDiv) (rI (fun _ j => j ≠ 0 ∧ j.natAbs.log2 < 9000) fun i j => .int (i.fdiv j)) := opI fun _ _ _ _ _ _ _ hc q => floordiv_int hc.1 q (.inl (PyProof.noPylong_of_log2 hc.2))
theorem bin_ok (op : Operator) : OpR X (binaryOp op) (rOp X.K X.mg W (binop op)) := by
  intro pins s σ H x y v u Q I rx ry hh
  obtain ⟨φ, h, a, b, sm, ra, rb, o⟩ := hh
  unfold binop at o
  split at o
  · exact op_add pins s σ H x y v u Q I rx ry ⟨_, _, ra, rb, o.at sm rfl⟩
  · exact op_sub pins s σ H x y v u Q I rx ry ⟨_, _, ra, rb, o.at sm rfl⟩
  · split at o
    · rename_i hm
      have hm' := of_decide_eq_true hm
      exact op_mulW pins s σ H x y v u Q I rx ry ⟨_, _, ra, rb, hm', o.at sm rfl⟩
    · exact o.elim
  · split at o
    · rename_i hm
      obtain ⟨h1, h2⟩ := Bool.and_eq_true_iff.mp hm
      exact op_fdivNW pins s σ H x y v u Q I rx ry ⟨_, _, ra, rb, ⟨of_decide_eq_true h1, of_decide_eq_true h2⟩, o.at sm rfl⟩
    · exact o.elim
  · split at o
    · exact o.elim
    · rename_i hm
      exact op_modN pins s σ H x y v u Q I rx ry ⟨_, _, ra, rb, hm, o.at sm rfl⟩
  · split at o
    · rename_i hm
      obtain ⟨h12, h3⟩ := Bool.and_eq_true_iff.mp hm
      obtain ⟨h1, h2⟩ := Bool.and_eq_true_iff.mp h12
      exact op_pow pins s σ H x y v u Q I rx ry ⟨_, _, ra, rb, ⟨of_decide_eq_true h1, of_decide_eq_true h2, of_decide_eq_true h3⟩, o.at sm rfl⟩
    · exact o.elim
  · split at o
    · rename_i hm
      exact op_add_str pins s σ H x y v u Q I rx ry ⟨_, _, ra, rb, line_ok hm, o.at sm rfl⟩
    · exact o.elim
  · rename_i m n
    split at o
    · rename_i l k e1 e2
      split at o
      · rename_i hm
        obtain ⟨a1, vs1, f1, g1, r1⟩ := sm.lst e1
        obtain ⟨a2, vs2, f2, g2, r2⟩ := sm.lst e2
        obtain ⟨b1, hx, q1⟩ := ra
        obtain ⟨b2, hy, q2⟩ := rb
        rw [f1] at q1
        rw [f2] at q2
        cases q1
        cases q2
        have hz : lineOk ((l ++ k).length) = true := by rw [List.length_append]; exact hm
        unfold Sb.alloc at o
        rw [if_pos hz] at o
        exact op_cat pins s σ H x y v u Q I rx ry ⟨a1, a2, vs1, vs2, hx, hy, g1, g2, by rw [← r1.length, ← r2.length]; exact line_ok hm, o.alloc sm (r1.append r2)⟩
      · exact o.elim
    · exact o.elim
  · exact o.elim

/-! ### data -/
mutual
theorem dp_of {K : PySem.W.Frag} {φ : List Addr} {h : PH} {H : Hp} (s : Sim K φ h H) : ∀ (n : Nat) (p : PV) (v : V) (d : PyData), RV K φ H p v → pd h n p = some d → Dp K H v d
  | n, .non, v, d, r, e => by
    have : v = .non := r
    subst this
    cases n <;> (cases e; exact .non)
  | n, .bl b, v, d, r, e => by
    have : v = .bl b := r
    subst this
    cases n <;> (cases e; exact .bl b)
  | n, .int i, v, d, r, e => by
    have : v = .int i := r
    subst this
    cases n <;> (cases e; exact .int i)
  | n, .str z, v, d, r, e => by
    have : v = .str z := r
    subst this
    have e' : d = .str z := by
      cases n <;> (
        unfold pd at e
        split at e
        · exact (Option.some.inj e).symm
        · cases e)
    subst e'
    exact .str z
  | 0, .tup l, v, d, r, e => by cases e
  | n + 1, .tup l, v, d, r, e => by
    obtain ⟨a, vs, e1, q, r'⟩ := r
    subst e1
    obtain ⟨ds, e2, e3⟩ := Option.map_eq_some_iff.mp (show (mapO (pd h n) l).map .tuple = some d from e)
    subst e3
    exact .tup q.sq (dps_of s n l vs ds r' e2)
  | 0, .cl l, v, d, r, e => by cases e
  | n + 1, .cl l, v, d, r, e => by
    obtain ⟨a, vs, e1, q, r'⟩ := r
    subst e1
    obtain ⟨ds, e2, e3⟩ := Option.map_eq_some_iff.mp (show (mapO (pd h n) l).map .list = some d from e)
    subst e3
    exact .lst q.sq (dps_of s n l vs ds r' e2)
  | 0, .ref m, v, d, r, e => by cases e
  | n + 1, .ref m, v, d, r, e => by
    obtain ⟨a, e1, q⟩ := r
    subst e1
    unfold pd at e
    cases z : h[m]? with
    | none => simp only [z] at e; cases e
    | some o =>
      cases o with
      | lst l =>
        simp only [z] at e
        obtain ⟨a', vs, e4, e5, r'⟩ := s.lst z
        rw [q] at e4
        cases e4
        obtain ⟨ds, e2, e3⟩ := Option.map_eq_some_iff.mp e
        subst e3
        exact .lst (SqL.of e5) (dps_of s n l vs ds r' e2)
  | n, .ty t, v, d, r, e => by cases n <;> cases e
theorem dps_of {K : PySem.W.Frag} {φ : List Addr} {h : PH} {H : Hp} (s : Sim K φ h H) : ∀ (n : Nat) (l : List PV) (vs : List V) (ds : List PyData), RVs K φ H l vs → mapO (pd h n) l = some ds → DpAll K H vs ds
  | n, [], vs, ds, r, e => by
    have : vs = [] := r
    subst this
    cases e
    exact .nil
  | n, p :: l, vs, ds, r, e => by
    obtain ⟨v, t, e1, q, r'⟩ := r
    subst e1
    unfold mapO at e
    cases z1 : pd h n p with
    | none => simp only [z1] at e; cases e
    | some d1 =>
      cases z2 : mapO (pd h n) l with
      | none => simp only [z1, z2] at e; cases e
      | some d2 =>
        simp only [z1, z2] at e
        cases e
        exact .cons (dp_of s n p v d1 q z1) (dps_of s n l t d2 r' z2)
end
mutual
theorem pd_shape {h : PH} : ∀ (n : Nat) (p : PV) (d : PyData), pd h n p = some d → d.canLay0 = true ∧ d.depth ≤ n
  | n, .non, d, e => by cases n <;> (cases e; exact ⟨rfl, Nat.zero_le _⟩)
  | n, .bl b, d, e => by cases n <;> (cases e; exact ⟨rfl, Nat.zero_le _⟩)
  | n, .int i, d, e => by cases n <;> (cases e; exact ⟨rfl, Nat.zero_le _⟩)
  | n, .str z, d, e => by
    have e' : strOkP z = true ∧ d = .str z := by
      cases n <;> (
        unfold pd at e
        split at e
        · exact ⟨by assumption, (Option.some.inj e).symm⟩
        · cases e)
    obtain ⟨e1, e2⟩ := e'
    subst e2
    exact ⟨e1, Nat.zero_le _⟩
  | 0, .tup l, d, e => by cases e
  | n + 1, .tup l, d, e => by
    obtain ⟨ds, e2, e3⟩ := Option.map_eq_some_iff.mp (show (mapO (pd h n) l).map .tuple = some d from e)
    subst e3
    obtain ⟨h1, h2⟩ := pds_shape n l ds e2
    exact ⟨h1, by unfold PyData.depth; omega⟩
  | 0, .cl l, d, e => by cases e
  | n + 1, .cl l, d, e => by
    obtain ⟨ds, e2, e3⟩ := Option.map_eq_some_iff.mp (show (mapO (pd h n) l).map .list = some d from e)
    subst e3
    obtain ⟨h1, h2⟩ := pds_shape n l ds e2
    exact ⟨h1, by unfold PyData.depth; omega⟩
  | 0, .ref m, d, e => by cases e
  | n + 1, .ref m, d, e => by
    unfold pd at e
    cases z : h[m]? with
    | none => simp only [z] at e; cases e
    | some o =>
      cases o with
      | lst l =>
        simp only [z] at e
        obtain ⟨ds, e2, e3⟩ := Option.map_eq_some_iff.mp e
        subst e3
        obtain ⟨h1, h2⟩ := pds_shape n l ds e2
        exact ⟨h1, by unfold PyData.depth; omega⟩
  | n, .ty t, d, e => by cases n <;> cases e
theorem pds_shape {h : PH} : ∀ (n : Nat) (l : List PV) (ds : List PyData), mapO (pd h n) l = some ds → PyData.canLayAll0 ds = true ∧ PyData.depthAll ds ≤ n
  | n, [], ds, e => by
    cases e
    exact ⟨rfl, Nat.zero_le _⟩
  | n, p :: l, ds, e => by
    unfold mapO at e
    cases z1 : pd h n p with
    | none => simp only [z1] at e; cases e
    | some d1 =>
      cases z2 : mapO (pd h n) l with
      | none => simp only [z1, z2] at e; cases e
      | some d2 =>
        simp only [z1, z2] at e
        cases e
        obtain ⟨a1, a2⟩ := pd_shape n p d1 z1
        obtain ⟨b1, b2⟩ := pds_shape n l d2 z2
        refine ⟨?_, ?_⟩
        · show (d1.canLay0 && PyData.canLayAll0 d2) = true
          rw [a1, b1]
          rfl
        · unfold PyData.depthAll
          omega
end
theorem shaped_of {h : PH} {n : Nat} {p : PV} {d : PyData} (e : pd h n p = some d) (hn : n ≤ 64) : SeqAt.shaped d = true := by
  obtain ⟨h1, h2⟩ := pd_shape n p d e
  unfold SeqAt.shaped
  rw [h1, decide_eq_true (show d.depth ≤ 64 by omega)]
  rfl
theorem eqP_ok {K : PySem.W.Frag} {φ : List Addr} {h : PH} {H : Hp} (s : Sim K φ h H) {a b : PV} {x y : V} {r : Bool} (ra : RV K φ H a x) (rb : RV K φ H b y) (e : eqP h a b = some r) :
    ∃ d e, Dp K H x d ∧ Dp K H y e ∧ SeqAt.shaped d = true ∧ SeqAt.shaped e = true ∧ PyData.eqv d e = r := by
  unfold eqP at e
  cases z1 : pd h 8 a with
  | none => simp only [z1] at e; cases e
  | some d1 =>
    cases z2 : pd h 8 b with
    | none => simp only [z1, z2] at e; cases e
    | some d2 =>
      simp only [z1, z2] at e
      exact ⟨d1, d2, dp_of s 8 a x d1 ra z1, dp_of s 8 b y d2 rb z2, shaped_of z1 (by decide), shaped_of z2 (by decide), Option.some.inj e⟩
section
variable {X : Cx} {W : XK}
theorem RV.isNon {K : PySem.W.Frag} {φ : List Addr} {H : Hp} {a : PV} {x : V} (r : RV K φ H a x) : decide (x = .non) = isNonP a := by
  cases a with
  | non => rw [show x = .non from r]; rfl
  | bl b => rw [show x = .bl b from r]; rfl
  | int b => rw [show x = .int b from r]; rfl
  | str b => rw [show x = .str b from r]; rfl
  | ty b => rw [show x = .ty b.nm from r]; rfl
  | ref n => obtain ⟨a, e, _⟩ := r; rw [e]; rfl
  | tup n => obtain ⟨a, _, e, _⟩ := r; rw [e]; rfl
  | cl n => obtain ⟨a, _, e, _⟩ := r; rw [e]; rfl
theorem cmp_ok (hu : X.A.units + 64 < cLine) (op : CmpOp) : OpR X (compareOp op) (rOp X.K X.mg W (cmpop op)) := by
  intro pins s σ H x y v u Q I rx ry hh
  obtain ⟨φ, h, a, b, sm, ra, rb, o⟩ := hh
  unfold cmpop at o
  split at o
  · exact op_lt pins s σ H x y v u Q I rx ry ⟨_, _, ra, rb, o.at sm rfl⟩
  · exact op_le pins s σ H x y v u Q I rx ry ⟨_, _, ra, rb, o.at sm rfl⟩
  · exact op_gt pins s σ H x y v u Q I rx ry ⟨_, _, ra, rb, o.at sm rfl⟩
  · exact op_ge pins s σ H x y v u Q I rx ry ⟨_, _, ra, rb, o.at sm rfl⟩
  · exact op_lt_str pins s σ H x y v u Q I rx ry ⟨_, _, ra, rb, o.at sm rfl⟩
  · have q := ra.isNon
    refine op_isN pins s σ H x y v u Q I rx ry ⟨rb, ?_⟩
    rw [q]
    exact o.at sm rfl
  · have q := ra.isNon
    refine op_notN pins s σ H x y v u Q I rx ry ⟨rb, ?_⟩
    rw [q]
    exact o.at sm rfl
  · rename_i x1 y1
    have hx : x = .str x1 := ra
    have hy : y = .str y1 := rb
    subst hx hy
    refine op_eq pins s σ H _ _ v u Q I rx ry ⟨rfl, ?_⟩
    rw [dec_str]
    have := o.at sm (b := V.bl (decide (x1 = y1))) rfl
    rwa [show (x1 == y1) = decide (x1 = y1) from by rw [Bool.eq_iff_iff]; simp]
  · rename_i x1 y1
    have hx : x = .str x1 := ra
    have hy : y = .str y1 := rb
    subst hx hy
    refine op_ne pins s σ H _ _ v u Q I rx ry ⟨rfl, ?_⟩
    rw [dec_str]
    have := o.at sm (b := V.bl (!decide (x1 = y1))) rfl
    rwa [show (x1 == y1) = decide (x1 = y1) from by rw [Bool.eq_iff_iff]; simp]
  · obtain ⟨z, e, q⟩ := o.some
    obtain ⟨r, e1, e2⟩ := Option.map_eq_some_iff.mp e
    subst e2
    obtain ⟨d, e', h1, h2, h3, h4, h5⟩ := eqP_ok sm ra rb e1
    refine op_eqD hu pins s σ H x y v u Q I rx ry ⟨d, e', h1, h2, h3, h4, ?_⟩
    rw [h5]
    exact q.at sm rfl
  · obtain ⟨z, e, q⟩ := o.some
    obtain ⟨r, e1, e2⟩ := Option.map_eq_some_iff.mp e
    subst e2
    obtain ⟨d, e', h1, h2, h3, h4, h5⟩ := eqP_ok sm ra rb e1
    refine op_neD hu pins s σ H x y v u Q I rx ry ⟨d, e', h1, h2, h3, h4, ?_⟩
    rw [h5]
    exact q.at sm rfl
  · exact o.elim
/-! ### subscripts -/
theorem atI_rel {K : PySem.W.Frag} {φ : List Addr} {H : Hp} {l : List PV} {vs : List V} {i : Int} {p : PV} (r : RVs K φ H l vs) (e : atI l i = some p) : ∃ v, atI vs i = some v ∧ RV K φ H p v := by
  unfold atI at e ⊢
  rw [← r.length]
  cases q : ixN l.length i with
  | none => rw [q] at e; cases e
  | some j =>
    rw [q] at e
    exact r.get e
theorem ix_ok : IxR X (rOp X.K X.mg W idxop) := by
  intro value slice pins s σ H x y v u Q I rx ry hh hs
  obtain ⟨φ, h, a, b, sm, ra, rb, o⟩ := hh
  unfold idxop at o
  split at o
  · split at o
    · rename_i hm
      split at o
      · rename_i c e
        exact ix_str value slice pins s σ H x y v u Q I rx ry ⟨_, _, c, ra, rb, line_ok hm, e, o.at sm rfl⟩ hs
      · exact o.elim
    · exact o.elim
  · split at o
    · rename_i l e
      obtain ⟨p, e1, q⟩ := o.some
      obtain ⟨ad, vs, hx, hq, r⟩ := sm.seqV ra e
      obtain ⟨w, e2, rw'⟩ := atI_rel r e1
      rcases hq with hq | hq
      · exact ix_list value slice pins s σ H x y v u Q I rx ry ⟨ad, vs, _, w, hx, rb, hq, e2, q.at sm rw'⟩ hs
      · exact ix_tup value slice pins s σ H x y v u Q I rx ry ⟨ad, vs, _, w, hx, rb, hq, e2, q.at sm rw'⟩ hs
    · exact o.elim
  · exact o.elim
def rSlP (K : PySem.W.Frag) (mg : Str → Option Value) (W : XK) : V → Option Int → Option Int → Hp → VK → Prop := fun x lo hi H Q => ∃ φ h a, Sim K φ h H ∧ RV K φ H a x ∧ Out K mg (RV K) φ H W Q (slcop a lo hi h)
theorem cut_rel {K : PySem.W.Frag} {φ : List Addr} {H : Hp} {l : List PV} {vs : List V} (r : RVs K φ H l vs) (lo hi : Option Int) : RVs K φ H (cutP l lo hi) (cutV vs lo hi) := by
  unfold cutP cutV
  rw [r.length]
  exact (r.drop _).take _
theorem sl_ok : SlR X (rSlP X.K X.mg W) := by
  intro pins s σ H x v vl vu lo hi sl Q I rx hs pl pu hh
  obtain ⟨φ, h, a, sm, ra, o⟩ := hh
  unfold slcop at o
  split at o
  · rename_i l e
    obtain ⟨ad, vs, hx, hq, r⟩ := sm.listV ra e
    exact sl_list pins s σ H x v vl vu lo hi sl Q I rx hs pl pu ⟨ad, vs, hx, hq, o.alloc sm (cut_rel r lo hi)⟩
  · exact o.elim
def rSetP (K : PySem.W.Frag) (mg : Str → Option Value) : TSet := fun o i v H Q => ∃ φ h a b c h', Sim K φ h H ∧ RV K φ H a o ∧ RV K φ H b i ∧ RV K φ H c v ∧ setop a b c h = some h' ∧ ∀ H', Ext φ φ H H' → Sim K φ h' H' → Q H'
theorem set_ok : PSet X (rSetP X.K X.mg) := by
  intro pins s σ H o i v ov iv u Q I ro ri rv hh
  obtain ⟨φ, h, a, b, c, h', sm, ra, rb, rc, e, q⟩ := hh
  unfold setop at e
  split at e
  · rename_i n k
    split at e
    · rename_i l e1
      split at e
      · rename_i j e2
        cases e
        obtain ⟨ad, vs, f1, g1, r1⟩ := sm.lst e1
        obtain ⟨b1, hx, q1⟩ := ra
        rw [f1] at q1
        cases q1
        refine set_list pins s σ H o i v ov iv u Q I ro ri rv ⟨ad, vs, k, j, hx, rb, g1, by rw [← r1.length]; exact e2, ?_⟩
        exact q _ (Ext.write (List.mem_of_getElem? f1)) (sm.write f1 (r1.set j rc))
      · cases e
    · cases e
  · cases e
/-! ### truth -/
theorem tru_of {K : PySem.W.Frag} {φ : List Addr} {h : PH} {H : Hp} {a : PV} {x : V} {b : Bool} (sm : Sim K φ h H) (r : RV K φ H a x) (e : truthy h a = some b) : TruV K x H b := by
  cases a with
  | non => rw [show x = .non from r]; cases e; rfl
  | bl c => rw [show x = .bl c from r]; cases e; rfl
  | int i => rw [show x = .int i from r]; cases e; rfl
  | str z =>
    rw [show x = .str z from r]
    simp only [truthy] at e
    split at e
    · rename_i hm
      cases e
      refine ⟨line_ok hm, ?_⟩
      by_cases q : 0 < z.length
      · rw [decide_eq_true q]
        exact (by simp; omega)
      · rw [decide_eq_false q]
        have : z.length = 0 := by omega
        rw [this]
        rfl
    · cases e
  | ty t => cases e
  | tup l =>
    obtain ⟨ad, vs, e1, q, r'⟩ := r
    cases e
    subst e1
    refine .inr (.inl ⟨vs, q.sq, ?_⟩)
    cases l with
    | nil => rw [show vs = [] from r']; rfl
    | cons p l => obtain ⟨v, t, e2, _⟩ := r'; rw [e2]; rfl
  | cl l =>
    obtain ⟨ad, vs, e1, q, r'⟩ := r
    cases e
    subst e1
    refine .inl ⟨vs, q.sq, ?_⟩
    cases l with
    | nil => rw [show vs = [] from r']; rfl
    | cons p l => obtain ⟨v, t, e2, _⟩ := r'; rw [e2]; rfl
  | ref n =>
    obtain ⟨ad, e1, q⟩ := r
    subst e1
    unfold truthy at e
    cases z : h[n]? with
    | none => simp only [z] at e; cases e
    | some o =>
      cases o with
      | lst l =>
        simp only [z] at e
        cases e
        obtain ⟨a', vs, e4, e5, r'⟩ := sm.lst z
        rw [q] at e4
        cases e4
        refine .inl ⟨vs, SqL.of e5, ?_⟩
        cases l with
        | nil => rw [show vs = [] from r']; rfl
        | cons p l => obtain ⟨v, t, e2, _⟩ := r'; rw [e2]; rfl
end
end
end Sb

set_option Elab.async false
set_option linter.all false
set_option maxRecDepth 100000
set_option maxHeartbeats 4000000
/-! Sb: built-ins, methods, what loops walk. -/
namespace Sb
open PySem PySem.Spec PyProof.Rows L2

def rCa (K : PySem.W.Frag) (mg : Str → Option Value) (W : XK) (f : List PV → PH → R PV) : List V → Hp → VK → Prop := fun vs H Q => ∃ φ h ps, Sim K φ h H ∧ RVs K φ H ps vs ∧ Out K mg (RV K) φ H W Q (f ps h)
theorem RVs.one {K : PySem.W.Frag} {φ : List Addr} {H : Hp} {p : PV} {vs : List V} (r : RVs K φ H [p] vs) : ∃ v, vs = [v] ∧ RV K φ H p v := by
  obtain ⟨v, t, e, q, s⟩ := r
  have : t = [] := s
  subst this
  exact ⟨v, e, q⟩
theorem RVs.two {K : PySem.W.Frag} {φ : List Addr} {H : Hp} {p q : PV} {vs : List V} (r : RVs K φ H [p, q] vs) : ∃ v w, vs = [v, w] ∧ RV K φ H p v ∧ RV K φ H q w := by
  obtain ⟨v, t, e, q, s⟩ := r
  obtain ⟨w, e2, q2⟩ := RVs.one s
  subst e2
  exact ⟨v, w, e, q, q2⟩
theorem kit_all (s t : Ty) : kitB s.nm t.nm = some (isTy s t) := by
  cases s <;> cases t <;> decide +kernel
theorem tyx_of {K : PySem.W.Frag} {φ : List Addr} {h : PH} {H : Hp} {a : PV} {x : V} {t : Ty} (sm : Sim K φ h H) (r : RV K φ H a x) (e : tyOf h a = some t) : TyX K H x (.type t.nm) := by
  cases a with
  | non => rw [show x = .non from r]; cases e; exact .base .non
  | bl c => rw [show x = .bl c from r]; cases e; exact .base (.bl c)
  | int i => rw [show x = .int i from r]; cases e; exact .base (.int i)
  | str z => rw [show x = .str z from r]; cases e; exact .base (.str z)
  | ty t => cases e
  | tup l =>
    obtain ⟨ad, vs, e1, q, r'⟩ := r
    cases e
    subst e1
    rcases q with ⟨q | ⟨o, q⟩, _⟩ | ⟨o, its, n, q1, q2, _⟩
    · exact .base (.tup q)
    · exact .fTuple q
    · exact .kTuple q1 q2
  | cl l =>
    obtain ⟨ad, vs, e1, q, r'⟩ := r
    cases e
    subst e1
    rcases q with ⟨⟨o, q⟩, _⟩ | ⟨o, its, n, q1, q2, _⟩
    · exact .base (.frz q)
    · exact .kList q1 q2
  | ref n =>
    obtain ⟨ad, e1, q⟩ := r
    subst e1
    unfold tyOf at e
    cases z : h[n]? with
    | none => simp only [z] at e; cases e
    | some o =>
      cases o with
      | lst l =>
        simp only [z] at e
        cases e
        obtain ⟨a', vs, e4, e5, r'⟩ := sm.lst z
        rw [q] at e4
        cases e4
        exact .base (.lst e5)
theorem bools_rel {K : PySem.W.Frag} {φ : List Addr} {H : Hp} : ∀ {l : List PV} {vs : List V} {bs : List Bool}, RVs K φ H l vs → boolsOf l = some bs → vs = bs.map V.bl
  | [], vs, bs, r, e => by
    have : vs = [] := r
    subst this
    cases e
    rfl
  | p :: l, vs, bs, r, e => by
    obtain ⟨v, t, e1, q, s⟩ := r
    cases p with
    | bl b =>
      obtain ⟨bs', e2, e3⟩ := Option.map_eq_some_iff.mp (show (boolsOf l).map (b :: ·) = some bs from e)
      rw [← e3, e1, bools_rel s e2, show v = .bl b from q]
      rfl
    | _ => cases e
theorem tys_rel {K : PySem.W.Frag} {φ : List Addr} {H : Hp} : ∀ {l : List PV} {vs : List V} {ts : List Ty}, RVs K φ H l vs → tysOf l = some ts → Paired ClsV vs (ts.map fun t => Value.type t.nm)
  | [], vs, bs, r, e => by
    have : vs = [] := r
    subst this
    cases e
    exact .nil
  | p :: l, vs, bs, r, e => by
    obtain ⟨v, t, e1, q, s⟩ := r
    cases p with
    | ty b =>
      obtain ⟨bs', e2, e3⟩ := Option.map_eq_some_iff.mp (show (tysOf l).map (b :: ·) = some bs from e)
      rw [← e3, e1, show v = .ty b.nm from q]
      exact .cons (.ty b.nm) (tys_rel s e2)
    | _ => cases e
theorem kit_any {K : PySem.W.Frag} (s : Ty) : ∀ ts : List Ty, PySem.W.kitAny K (.type s.nm) (ts.map fun t => Value.type t.nm) = some (ts.any (isTy s))
  | [] => kitAny_nil
  | t :: ts => by
    rw [List.map_cons, List.any_cons]
    refine kitAny_cons (b := isTy s t) (kit_ty (kit_all s t)) (fun e => ?_) fun e => ?_
    · rw [e, Bool.false_or]
      exact kit_any s ts
    · rw [e]
      rfl
section
variable {X : Cx} {W : XK}
theorem bi_abs : CallR X (.builtin "abs") (rCa X.K X.mg W biAbs) := by
  intro pins s σ H vs us Q I rv hh
  obtain ⟨φ, h, ps, sm, r, o⟩ := hh
  unfold biAbs at o
  split at o
  · rename_i i
    obtain ⟨v, e, q⟩ := r.one
    subst e
    exact call_abs pins s σ H _ us Q I rv ⟨i, by rw [show v = .int i from q], o.at sm rfl⟩
  · exact o.elim
theorem bi_len : CallR X (.builtin "len") (rCa X.K X.mg W biLen) := by
  intro pins s σ H vs us Q I rv hh
  obtain ⟨φ, h, ps, sm, r, o⟩ := hh
  unfold biLen at o
  split at o
  · rename_i z
    obtain ⟨v, e, q⟩ := r.one
    subst e
    split at o
    · rename_i hm
      exact call_len pins s σ H _ us Q I rv ⟨v, z.length, rfl, by rw [show v = .str z from q]; exact ⟨line_ok hm, rfl⟩, o.at sm rfl⟩
    · exact o.elim
  · obtain ⟨v, e, q⟩ := r.one
    subst e
    split at o
    · rename_i l e1
      obtain ⟨ad, vs, hx, hq, r'⟩ := sm.seqV q e1
      refine call_len_seq pins s σ H _ us Q I rv ⟨ad, vs, by rw [hx], hq, ?_⟩
      rw [← r'.length]
      exact o.at sm rfl
    · exact o.elim
  · exact o.elim
theorem bi_all (hc : X.calm = true) : CallR X (.builtin "all") (rCa X.K X.mg W biAll) := by
  intro pins s σ H vs us Q I rv hh
  obtain ⟨φ, h, ps, sm, r, o⟩ := hh
  unfold biAll at o
  split at o
  · obtain ⟨v, e, q⟩ := r.one
    subst e
    split at o
    · rename_i bs e1
      obtain ⟨l, e2, e3⟩ := Option.bind_eq_some_iff.mp e1
      obtain ⟨ad, vs, hx, hq, r'⟩ := sm.listV q e2
      rw [bools_rel r' e3] at hq
      exact cr_all hc pins s σ H _ us Q I rv ⟨ad, bs, by rw [hx], hq, o.at sm rfl⟩
    · exact o.elim
  · exact o.elim
theorem bi_any (hc : X.calm = true) : CallR X (.builtin "any") (rCa X.K X.mg W biAny) := by
  intro pins s σ H vs us Q I rv hh
  obtain ⟨φ, h, ps, sm, r, o⟩ := hh
  unfold biAny at o
  split at o
  · obtain ⟨v, e, q⟩ := r.one
    subst e
    split at o
    · rename_i bs e1
      obtain ⟨l, e2, e3⟩ := Option.bind_eq_some_iff.mp e1
      obtain ⟨ad, vs, hx, hq, r'⟩ := sm.listV q e2
      rw [bools_rel r' e3] at hq
      exact cr_any hc pins s σ H _ us Q I rv ⟨ad, bs, by rw [hx], hq, o.at sm rfl⟩
    · exact o.elim
  · exact o.elim
theorem bi_isinst : CallR X (.builtin "isinstance") (rCa X.K X.mg W biIsinst) := by
  intro pins s σ H vs us Q I rv hh
  obtain ⟨φ, h, ps, sm, r, o⟩ := hh
  unfold biIsinst at o
  split at o
  · rename_i a t
    obtain ⟨v, w, e, q, q2⟩ := r.two
    subst e
    split at o
    · rename_i ts e1
      exact call_isi pins s σ H _ us Q I rv ⟨v, .ty t.nm, _, _, _, by rw [show w = .ty t.nm from q2], .ty t.nm, tyx_of sm q e1, kit_ty (kit_all ts t), o.at sm rfl⟩
    · exact o.elim
  · rename_i a l
    obtain ⟨v, w, e, q, q2⟩ := r.two
    subst e
    split at o
    · rename_i ts tl e1 e2
      obtain ⟨ad, vs, hx, hq, r'⟩ := q2
      subst hx
      rcases hq with ⟨hq | ⟨ob, hq⟩, _⟩ | hq
      · exact call_isiT pins s σ H _ us Q I rv ⟨v, ad, vs, _, _, _, rfl, hq, tys_rel r' e2, tyx_of sm q e1, kit_any ts tl, o.at sm rfl⟩
      · exact isiF pins s σ H _ us Q I rv ⟨v, ad, ob, vs, _, _, _, rfl, hq, tys_rel r' e2, tyx_of sm q e1, kit_any ts tl, o.at sm rfl⟩
      · exact isiKT pins s σ H _ us Q I rv ⟨v, ad, vs, _, _, _, rfl, hq, tys_rel r' e2, tyx_of sm q e1, kit_any ts tl, o.at sm rfl⟩
    · exact o.elim
  · exact o.elim
where
  isiF : CallR X (.builtin "isinstance") (fun xs H Q => ∃ (x : V) (tp : Addr) (ob : Obj) (cs : List V) (t : Value) (us : List Value) (b : Bool), xs = [x, .ref tp] ∧ H tp = some (.frz ob (.tup cs)) ∧ Paired ClsV cs us ∧ TyX X.K H x t ∧ PySem.W.kitAny X.K t us = some b ∧ Q (.bl b) H) := by
    intro pins s σ H xs us Q I r h
    obtain ⟨x, tp, ob, cs, t, ws, b, rfl, hT, k, ty, e, q⟩ := h
    obtain ⟨u1, u2, rfl, r1, r2⟩ := vals2 r
    cases (show u2 = Value.ref tp from r2)
    obtain ⟨P, Z, p, hx⟩ := kit_of I r1 ty
    obtain ⟨_, _, its, rv, o, h1, h2, n, h3⟩ := (show ObjOk X.prog X.w H s.heap tp (.frz ob (.tup cs)) from I.hok tp _ hT)
    have e3 := ClsV.all k rv
    subst e3
    obtain ⟨oc, od, dt, sl⟩ := o
    simp only at h2 h3
    subst h2 h3
    exact PySem.W.kia_tup Z I.kIn p h1 e hx fun tk => ⟨.bl b, H, I.tok tk, rfl, q⟩
  isiKT : CallR X (.builtin "isinstance") (fun xs H Q => ∃ (x : V) (tp : Addr) (cs : List V) (t : Value) (us : List Value) (b : Bool), xs = [x, .ref tp] ∧ KT X.K tp cs ∧ Paired ClsV cs us ∧ TyX X.K H x t ∧ PySem.W.kitAny X.K t us = some b ∧ Q (.bl b) H) := by
    intro pins s σ H xs us Q I r h
    obtain ⟨x, tp, cs, t, ws, b, rfl, ⟨o, its, n, h1, h2, h3, hz, rv⟩, k, ty, e, q⟩ := h
    obtain ⟨u1, u2, rfl, r1, r2⟩ := vals2 r
    cases (show u2 = Value.ref tp from r2)
    obtain ⟨P, Z, p, hx⟩ := kit_of I r1 ty
    have e3 := ClsV.all k rv
    obtain ⟨oc, od, dt, sl⟩ := o
    simp only at h2 h3
    subst h2 h3
    have e4 : its = ws.toArray := by rw [← e3]
    subst e4
    exact PySem.W.kia_tup Z I.kIn p (I.kIn _ _ h1) e hx fun tk => ⟨.bl b, H, I.tok tk, rfl, q⟩
theorem bi_tuple : CallR X (.type "tuple") (rCa X.K X.mg W biTuple) := by
  intro pins s σ H vs us Q I rv hh
  obtain ⟨φ, h, ps, sm, r, o⟩ := hh
  unfold biTuple at o
  split at o
  · rename_i l
    obtain ⟨v, e, q⟩ := r.one
    subst e
    obtain ⟨ad, vs, hx, hq, r'⟩ := id q
    exact call_tuple_of pins s σ H _ us Q I rv ⟨ad, vs, by rw [hx], .inr ⟨hq.sq, o.at sm ⟨ad, vs, rfl, hq, r'⟩⟩⟩
  · obtain ⟨v, e, q⟩ := r.one
    subst e
    split at o
    · rename_i l e1
      obtain ⟨ad, vs, hx, hq, r'⟩ := sm.listV q e1
      exact call_tuple_of pins s σ H _ us Q I rv ⟨ad, vs, by rw [hx], .inl ⟨hq, o.tupn sm r'⟩⟩
    · exact o.elim
  · exact o.elim
theorem bi_list : CallR X (.type "list") (rCa X.K X.mg W biList) := by
  intro pins s σ H vs us Q I rv hh
  obtain ⟨φ, h, ps, sm, r, o⟩ := hh
  unfold biList at o
  split at o
  · obtain ⟨v, e, q⟩ := r.one
    subst e
    split at o
    · rename_i l e1
      obtain ⟨ad, vs, hx, hq, r'⟩ := sm.seqV q e1
      exact call_list_of pins s σ H _ us Q I rv ⟨ad, vs, by rw [hx], hq, o.alloc sm r'⟩
    · exact o.elim
  · exact o.elim
theorem bi_int : CallR X (.type "int") (rCa X.K X.mg W biInt) := by
  intro pins s σ H vs us Q I rv hh
  obtain ⟨φ, h, ps, sm, r, o⟩ := hh
  unfold biInt at o
  split at o
  · rename_i i
    obtain ⟨v, e, q⟩ := r.one
    subst e
    exact call_int1 pins s σ H _ us Q I rv (.inl ⟨i, by rw [show v = .int i from q], o.at sm rfl⟩)
  · rename_i b
    obtain ⟨v, e, q⟩ := r.one
    subst e
    exact call_int1 pins s σ H _ us Q I rv (.inr ⟨b, by rw [show v = .bl b from q], o.at sm rfl⟩)
  · exact o.elim
theorem bi_min2 (hc : X.calm = true) : CallR X (.builtin "min") (rCa X.K X.mg W biMin2) := by
  intro pins s σ H vs us Q I rv hh
  obtain ⟨φ, h, ps, sm, r, o⟩ := hh
  unfold biMin2 at o
  split at o
  · rename_i i j
    obtain ⟨v, w, e, q, q2⟩ := r.two
    subst e
    exact call_min2 hc pins s σ H _ us Q I rv ⟨i, j, by rw [show v = .int i from q, show w = .int j from q2], o.at sm rfl⟩
  · exact o.elim
theorem bi_max2 (hc : X.calm = true) : CallR X (.builtin "max") (rCa X.K X.mg W biMax2) := by
  intro pins s σ H vs us Q I rv hh
  obtain ⟨φ, h, ps, sm, r, o⟩ := hh
  unfold biMax2 at o
  split at o
  · rename_i i j
    obtain ⟨v, w, e, q, q2⟩ := r.two
    subst e
    exact call_max2 hc pins s σ H _ us Q I rv ⟨i, j, by rw [show v = .int i from q, show w = .int j from q2], o.at sm rfl⟩
  · exact o.elim
/-! ### methods -/
def rMt (K : PySem.W.Frag) (mg : Str → Option Value) (W : XK) (f : PV → List PV → PH → R PV) : V → List V → Hp → VK → Prop := fun x vs H Q => ∃ φ h p ps, Sim K φ h H ∧ RV K φ H p x ∧ RVs K φ H ps vs ∧ Out K mg (RV K) φ H W Q (f p ps h)
theorem mt_append_ok : MtR X "list.append" (rMt X.K X.mg W mtAppend) := by
  intro pins s σ H x xs v us Q I rx rs hh
  obtain ⟨φ, h, p, ps, sm, r, r2, o⟩ := hh
  unfold mtAppend at o
  split at o
  · rename_i n a
    split at o
    · rename_i l e1
      split at o
      · rename_i hm
        obtain ⟨ad, vs, f1, g1, r1⟩ := sm.lst e1
        obtain ⟨b1, hx, q1⟩ := r
        rw [f1] at q1
        cases q1
        obtain ⟨w, e, q⟩ := r2.one
        subst e
        refine mt_append pins s σ H x _ v us Q I rx rs ⟨ad, vs, w, hx, rfl, g1, by rw [← r1.length]; exact line_lt hm, ?_⟩
        exact o φ _ _ (Ext.write (List.mem_of_getElem? f1)) (sm.write f1 (r1.append (RVs.cons q RVs.nil))) rfl
      · exact o.elim
    · exact o.elim
  · exact o.elim
theorem mt_popAt_ok : MtR X "list.pop" (rMt X.K X.mg W mtPopAt) := by
  intro pins s σ H x xs v us Q I rx rs hh
  obtain ⟨φ, h, p, ps, sm, r, r2, o⟩ := hh
  unfold mtPopAt at o
  split at o
  · rename_i n i
    split at o
    · rename_i l e1
      split at o
      · rename_i hm
        split at o
        · rename_i w e2
          obtain ⟨ad, vs, f1, g1, r1⟩ := sm.lst e1
          obtain ⟨b1, hx, q1⟩ := r
          rw [f1] at q1
          cases q1
          obtain ⟨z, e, q⟩ := r2.one
          subst e
          obtain ⟨y, e3, ry⟩ := r1.get e2
          have hlt : i.toNat < vs.length := (List.getElem?_eq_some_iff.mp e3).1
          have hz : vs.length ≤ sizeLine := by
            obtain ⟨hz, _⟩ := (show ObjOk X.prog X.w H s.heap ad (.lst vs) from I.hok ad _ g1)
            exact hz
          have hs := sizeLine_eq
          refine mt_popAt pins s σ H x _ v us Q I rx rs ⟨ad, vs, i, i.toNat, y, hx, by rw [show z = .int i from q], g1, by omega, by omega, PySem.StrLaws.seqIndex_nonneg hm (by omega), e3, ?_⟩
          exact o φ _ _ (Ext.write (List.mem_of_getElem? f1)) (sm.write f1 (r1.erase i.toNat)) (ry.mono (Ext.write (List.mem_of_getElem? f1)))
        · exact o.elim
      · exact o.elim
    · exact o.elim
  · exact o.elim
end
end Sb

set_option Elab.async false
set_option linter.all false
set_option maxRecDepth 100000
set_option maxHeartbeats 4000000
/-! Sb: expressions: the interpreter's answer is what the program's expression gives. -/
namespace Sb
open PySem PySem.Spec L2

/-- what is wanted of an exception at these slots -/
abbrev atS (W : WX) (σ : St) : XK := fun c d H => W c d σ H
def tE (K : PySem.W.Frag) (mg : Str → Option Value) (W : WX) (C : Calls) (e : E) : TE := fun σ H Q => ∃ ρ φ h, Sim K φ h H ∧ RE K φ H ρ σ ∧ Out K mg (RV K) φ H (atS W σ) Q (evG C e false ρ h)
def tT (K : PySem.W.Frag) (mg : Str → Option Value) (W : WX) (C : Calls) (e : E) : TT := fun σ H Q => ∃ ρ φ h, Sim K φ h H ∧ RE K φ H ρ σ ∧ Out K mg RI φ H (atS W σ) Q (evT C e ρ h)
def tAs (K : PySem.W.Frag) (mg : Str → Option Value) (W : WX) (C : Calls) (es : List E) : TA := fun σ H Q => ∃ ρ φ h, Sim K φ h H ∧ RE K φ H ρ σ ∧ Out K mg (RVs K) φ H (atS W σ) Q (evGs C es ρ h)
/-- the program's expression a is the plain expression e -/
abbrev JE (X : Cx) (W : WX) (C : Calls) (a : Expr) (e : E) : Prop := PE X a (tE X.K X.mg W C e)
abbrev JT (X : Cx) (W : WX) (C : Calls) (a : Expr) (e : E) : Prop := PT X a (tT X.K X.mg W C e)
abbrev JA (X : Cx) (W : WX) (C : Calls) (as : List Expr) (es : List E) : Prop := PA X as (tAs X.K X.mg W C es)
theorem pe_imp {X : Cx} {a : Expr} {t t' : TE} (p : PE X a t) (f : ∀ σ H Q, t' σ H Q → t σ H Q) : PE X a t' := ⟨fun pins s σ H Q I h => p.run pins s σ H Q I (f σ H Q h)⟩
theorem pt_imp {X : Cx} {a : Expr} {t t' : TT} (p : PT X a t) (f : ∀ σ H Q, t' σ H Q → t σ H Q) : PT X a t' := ⟨fun pins s σ H Q I h => p.run pins s σ H Q I (f σ H Q h)⟩
theorem pa_imp {X : Cx} {a : List Expr} {t t' : TA} (p : PA X a t) (f : ∀ σ H Q, t' σ H Q → t σ H Q) : PA X a t' := ⟨fun pos pins s σ H Q I h => p.run pos pins s σ H Q I (f σ H Q h)⟩
section
variable {X : Cx} {W : WX} {C : Calls} {a b c : Expr} {pos : Pos} {ea eb ec : E}

theorem je_var (i : Nat) {x : Str} (hN : X.N[i]? = some x := by rfl) (hv : Vis X.env.scope x := by first | exact Or.inl rfl | exact Or.inr (Or.inl rfl) | exact Or.inr (Or.inr rfl)) (hd : (x == ("__debug__" : Str)) = false := by decide)
    (hcd : (x == ("__classdict__" : Str)) = false := by decide) : JE X W C (.Name x pos) (.var i) := pe_imp (pe_var hN hv hd hcd) fun σ H Q ⟨ρ, φ, h, sm, re, o⟩ => by
  have o' : Out X.K X.mg (RV X.K) φ H (atS W σ) Q (ofO (ρ.get i) h) := o
  obtain ⟨p, e, q⟩ := o'.some
  have e' : ρ[i]? = some (some p) := by
    unfold Env.get at e
    split at e
    · rename_i v e2
      rw [e2, Option.some.inj e]
    · cases e
  obtain ⟨v, e3, r⟩ := re.get e'
  exact ⟨v, e3, q.at sm r⟩
theorem je_lit {a : Expr} {v : V} {p : PV} (hp : PE X a (tC v)) (r : ∀ φ H, RV X.K φ H p v) : JE X W C a (.lit p) := pe_imp hp fun σ H Q ⟨ρ, φ, h, sm, re, o⟩ => by
  have o' : Out X.K X.mg (RV X.K) φ H (atS W σ) Q (.ok p h) := o
  exact o'.at sm (r φ H)
theorem je_int {i : Int} {j : Nat} : JE X W C (.Constant (.int i) j pos) (.lit (.int i)) := je_lit pe_int fun _ _ => rfl
theorem je_bl {i : Bool} {j : Nat} : JE X W C (.Constant (.bool i) j pos) (.lit (.bl i)) := je_lit pe_bl fun _ _ => rfl
theorem je_non {j : Nat} : JE X W C (.Constant .none j pos) (.lit .non) := je_lit pe_non fun _ _ => rfl
theorem je_str {i : Str} {j : Nat} : JE X W C (.Constant (.str i) j pos) (.lit (.str i)) := je_lit pe_str fun _ _ => rfl
/-- a built-in class by its name -/
theorem je_ty {x : Str} (t : Ty) (hm : X.mg x = none) (hv : bootBuiltins x = some (.type t.nm)) (hg : Gl X x := by rfl) (hn : x ≠ "__name__" := by decide) (hd : (x == ("__debug__" : Str)) = false := by decide) : JE X W C (.Name x pos) (.lit (.ty t)) :=
  je_lit (pe_bltn (v := .ty t.nm) hg hm hv rfl hn hd) fun _ _ => rfl
/-- a constant of the module -/
theorem je_glob {x : Str} {v : V} {u : Value} {p : PV} (hm : X.mg x = some u) (ru : RelV v u) (r : ∀ φ H, RV X.K φ H p v) (hg : Gl X x := by rfl) (hd : (x == ("__debug__" : Str)) = false := by decide) : JE X W C (.Name x pos) (.lit p) := je_lit (pe_glob hg hm ru hd) r
/-- two, one after another -/
theorem two_of {σ : St} {H : Hp} {Q : VK} {ρ : Env} {φ : List Addr} {h : PH} {f : PV → PV → PH → R PV} (sm : Sim X.K φ h H) (re : RE X.K φ H ρ σ) (o : Out X.K X.mg (RV X.K) φ H (atS W σ) Q ((evG C ea false ρ h).bind fun x h1 => (evG C eb false ρ h1).bind fun y h2 => f x y h2)) :
    tOp (fun x y H Q => ∃ W' : XK, rOp X.K X.mg W' f x y H Q) (tE X.K X.mg W C ea) (tE X.K X.mg W C eb) σ H Q :=
  ⟨ρ, φ, h, sm, re, (Out.bind (rel2 := RV X.K) o).imp fun x H1 ⟨φ1, va, h1, x1, s1, r1, o1⟩ => ⟨ρ, φ1, h1, s1, re.mono x1, (Out.bind (rel2 := RV X.K) o1).imp fun y H2 ⟨φ2, vb, h2, x2, s2, r2, o2⟩ => ⟨_, φ2, h2, va, vb, s2, r1.mono x2, r2, o2⟩⟩⟩
theorem opr_any {f : Value → Value → Sem Value} {r : XK → R2} (h : ∀ W, OpR X f (r W)) : OpR X f (fun x y H Q => ∃ W, r W x y H Q) := fun pins s σ H x y v u Q I rx ry ⟨W, q⟩ => h W pins s σ H x y v u Q I rx ry q
theorem ixr_any {r : XK → R2} (h : ∀ W, IxR X (r W)) : IxR X (fun x y H Q => ∃ W, r W x y H Q) := fun value slice pins s σ H x y v u Q I rx ry ⟨W, q⟩ hs => h W value slice pins s σ H x y v u Q I rx ry q hs
theorem je_bin {op : Operator} (ha : JE X W C a ea) (hb : JE X W C b eb) : JE X W C (.BinOp a op b pos) (.bin op ea eb) :=
  pe_imp (pe_op (opr_any fun W' => bin_ok (W := W') op) ha hb) fun σ H Q ⟨ρ, φ, h, sm, re, o⟩ => two_of sm re o
theorem je_cmp {op : CmpOp} (hu : X.A.units + 64 < cLine) (ha : JE X W C a ea) (hb : JE X W C b eb) (hm : behindInMarks op b = false := by rfl) : JE X W C (.Compare a [op] [b] pos) (.cmp op ea eb) :=
  pe_imp (pe_cmpR (opr_any fun W' => cmp_ok (W := W') hu op) ha hb hm) fun σ H Q ⟨ρ, φ, h, sm, re, o⟩ => two_of sm re o
theorem je_idx (ha : JE X W C a ea) (hb : JE X W C b eb) (hs : PlainIx b := by exact fun _ _ => rfl) : JE X W C (.Subscript a b pos) (.idx ea eb) :=
  pe_imp (pe_ix (ixr_any fun W' => ix_ok (W := W')) ha hb hs) fun σ H Q ⟨ρ, φ, h, sm, re, o⟩ => two_of sm re o
theorem je_neg (ha : JE X W C a ea) : JE X W C (.UnaryOp .USub a pos) (.neg ea) := pe_imp (pe_un un_neg ha) fun σ H Q ⟨ρ, φ, h, sm, re, o⟩ =>
  ⟨ρ, φ, h, sm, re, (Out.bind (rel2 := RV X.K) (show Out X.K X.mg (RV X.K) φ H (atS W σ) Q ((evG C ea false ρ h).bind _) from o)).imp fun x H1 ⟨φ1, va, h1, x1, s1, r1, o1⟩ => by
    cases va with
    | int i => exact ⟨i, r1, o1.at s1 rfl⟩
    | _ => exact (show False from o1).elim⟩
theorem je_not (ha : JE X W C a ea) : JE X W C (.UnaryOp .Not a pos) (.nt ea) := pe_imp (pe_not ha) fun σ H Q ⟨ρ, φ, h, sm, re, o⟩ =>
  ⟨ρ, φ, h, sm, re, (Out.bind (rel2 := RV X.K) (show Out X.K X.mg (RV X.K) φ H (atS W σ) Q ((evG C ea false ρ h).bind _) from o)).imp fun x H1 ⟨φ1, va, h1, x1, s1, r1, o1⟩ => by
    cases va with
    | bl i => exact ⟨i, r1, o1.at s1 rfl⟩
    | _ => exact (show False from o1).elim⟩
/-- a and b (and ..): the rest of the list -/
theorem je_one {op : BoolOp} (ha : JE X W C a ea) : JE X W C (.BoolOp op [a] pos) ea := pe_one ha
theorem je_and {rest : List Expr} (ha : JE X W C a ea) (hb : JE X W C (.BoolOp .And (b :: rest) pos) eb) : JE X W C (.BoolOp .And (a :: b :: rest) pos) (.band ea eb) := pe_imp (pe_and ha hb) fun σ H Q ⟨ρ, φ, h, sm, re, o⟩ =>
  ⟨ρ, φ, h, sm, re, (Out.bind (rel2 := RV X.K) (show Out X.K X.mg (RV X.K) φ H (atS W σ) Q ((evG C ea false ρ h).bind _) from o)).imp fun x H1 ⟨φ1, va, h1, x1, s1, r1, o1⟩ => by
    cases va with
    | bl i =>
      refine ⟨i, r1, ?_⟩
      cases i with
      | true => exact ⟨ρ, φ1, h1, s1, re.mono x1, o1⟩
      | false => exact o1.at s1 rfl
    | _ => exact (show False from o1).elim⟩
theorem je_or {rest : List Expr} (ha : JE X W C a ea) (hb : JE X W C (.BoolOp .Or (b :: rest) pos) eb) : JE X W C (.BoolOp .Or (a :: b :: rest) pos) (.bor ea eb) := pe_imp (pe_or ha hb) fun σ H Q ⟨ρ, φ, h, sm, re, o⟩ =>
  ⟨ρ, φ, h, sm, re, (Out.bind (rel2 := RV X.K) (show Out X.K X.mg (RV X.K) φ H (atS W σ) Q ((evG C ea false ρ h).bind _) from o)).imp fun x H1 ⟨φ1, va, h1, x1, s1, r1, o1⟩ => by
    cases va with
    | bl i =>
      refine ⟨i, r1, ?_⟩
      cases i with
      | false => exact ⟨ρ, φ1, h1, s1, re.mono x1, o1⟩
      | true => exact o1.at s1 rfl
    | _ => exact (show False from o1).elim⟩
/-! ### tests -/
theorem evT_fin {K : PySem.W.Frag} {mg : Str → Option Value} {φ : List Addr} {H : Hp} {W : XK} {Q : Bool → Hp → Prop} {m : R PV} (o : Out K mg RI φ H W Q (asB (fin true m))) :
    Out K mg (RV K) φ H W (fun x H' => ∃ k, TruV K x H' k ∧ Q k H') m := by
  unfold asB fin at o
  rw [if_pos rfl] at o
  cases m with
  | ok p h =>
    intro φ' H' v x s r
    rw [R.bind_ok] at o
    cases e : truthy h p with
    | none => rw [e] at o; exact (show False from o).elim
    | some k =>
      rw [e] at o
      exact ⟨k, tru_of s r e, (show Out K mg RI φ H W Q (.ok k h) from o) φ' H' k x s rfl⟩
  | ex x h => exact o
  | no => exact o
/-- a test that is a value's truth -/
theorem jt_val (ha : JE X W C a ea) (he : ∀ whole, isTrue a X.env whole = (do let v ← whole; standAt a.pos; holding [v] (PySem.truthy v)) := by intro _; rfl) (hf : ∀ ρ h, evG C ea true ρ h = fin true (evG C ea false ρ h) := by intro _ _; rfl) : JT X W C a ea :=
  pt_imp (pt_truth ha he) fun σ H Q ⟨ρ, φ, h, sm, re, o⟩ => ⟨ρ, φ, h, sm, re, evT_fin (by
    have o' : Out X.K X.mg RI φ H (atS W σ) Q (asB (evG C ea true ρ h)) := o
    rw [hf] at o'
    exact o')⟩
theorem cmp_bool {op : CmpOp} {a b : PV} {h : PH} {p : PV} {h' : PH} (e : cmpop op a b h = .ok p h') : ∃ k, p = .bl k := by
  unfold cmpop at e
  split at e
  all_goals first
    | (cases e; exact ⟨_, rfl⟩)
    | (cases z : eqP h a b with
       | none => rw [z] at e; cases e
       | some k => rw [z] at e; cases e; exact ⟨_, rfl⟩)
    | cases e
theorem cmp_noex {op : CmpOp} {a b : PV} {h : PH} {x : Exn} {h' : PH} : cmpop op a b h ≠ .ex x h' := by
  intro e
  unfold cmpop at e
  split at e
  all_goals first
    | cases e
    | (cases z : eqP h a b with
       | none => rw [z] at e; cases e
       | some k => rw [z] at e; cases e)
/-- a comparison as a test -/
theorem jt_cmp {op : CmpOp} (hu : X.A.units + 64 < cLine) (ha : JE X W C a ea) (hb : JE X W C b eb) (hm : behindInMarks op b = false := by rfl) : JT X W C (.Compare a [op] [b] pos) (.cmp op ea eb) :=
  pt_imp (pt_cmpR (opr_any fun W' => cmp_ok (W := W') hu op) ha hb hm) fun σ H Q ⟨ρ, φ, h, sm, re, o⟩ => by
    have o' : Out X.K X.mg RI φ H (atS W σ) Q (asB (fin true ((evG C ea false ρ h).bind fun x h1 => (evG C eb false ρ h1).bind fun y h2 => cmpop op x y h2))) := o
    have key : Out X.K X.mg (RV X.K) φ H (atS W σ) (fun x H' => ∃ k, x = .bl k ∧ Q k H') ((evG C ea false ρ h).bind fun x h1 => (evG C eb false ρ h1).bind fun y h2 => cmpop op x y h2) := by
      generalize hm : ((evG C ea false ρ h).bind fun x h1 => (evG C eb false ρ h1).bind fun y h2 => cmpop op x y h2) = m at o'
      cases m with
      | ok p h' =>
        intro φ' H' v x s r
        have hp : ∃ k, p = .bl k := by
          cases e1 : evG C ea false ρ h with
          | ok va h1 =>
            rw [e1, R.bind_ok] at hm
            cases e2 : evG C eb false ρ h1 with
            | ok vb h2 => rw [e2, R.bind_ok] at hm; exact cmp_bool hm
            | ex _ _ => rw [e2] at hm; cases hm
            | no => rw [e2] at hm; cases hm
          | ex _ _ => rw [e1] at hm; cases hm
          | no => rw [e1] at hm; cases hm
        obtain ⟨k, rfl⟩ := hp
        exact ⟨k, r, (show Out X.K X.mg RI φ H (atS W σ) Q (.ok k h') from o') φ' H' k x s rfl⟩
      | ex x h' => exact o'
      | no => exact o'
    exact two_of sm re key
theorem asB_bind {α : Type} (m : R α) (f : α → PH → R PV) : asB (m.bind f) = m.bind fun x h => asB (f x h) := by
  cases m <;> rfl
theorem evT_not (ρ : Env) (h : PH) : evT C (.nt ea) ρ h = (evT C ea ρ h).bind fun k h1 => .ok (!k) h1 := by
  unfold evT
  show asB ((evG C ea true ρ h).bind _) = (asB (evG C ea true ρ h)).bind _
  cases evG C ea true ρ h with
  | ok p h1 => cases p <;> rfl
  | ex x h1 => rfl
  | no => rfl
theorem evT_and (ρ : Env) (h : PH) : evT C (.band ea eb) ρ h = (evT C ea ρ h).bind fun k h1 => if k then evT C eb ρ h1 else .ok false h1 := by
  unfold evT
  show asB ((evG C ea true ρ h).bind _) = (asB (evG C ea true ρ h)).bind _
  cases evG C ea true ρ h with
  | ok p h1 =>
    cases p with
    | bl k => cases k <;> rfl
    | _ => rfl
  | ex x h1 => rfl
  | no => rfl
theorem evT_or (ρ : Env) (h : PH) : evT C (.bor ea eb) ρ h = (evT C ea ρ h).bind fun k h1 => if k then .ok true h1 else evT C eb ρ h1 := by
  unfold evT
  show asB ((evG C ea true ρ h).bind _) = (asB (evG C ea true ρ h)).bind _
  cases evG C ea true ρ h with
  | ok p h1 =>
    cases p with
    | bl k => cases k <;> rfl
    | _ => rfl
  | ex x h1 => rfl
  | no => rfl
theorem jt_not (ha : JT X W C a ea) : JT X W C (.UnaryOp .Not a pos) (.nt ea) := pt_imp (pt_not ha) fun σ H Q ⟨ρ, φ, h, sm, re, o⟩ => by
  rw [evT_not] at o
  exact ⟨ρ, φ, h, sm, re, (Out.bind (rel2 := RI) o).imp fun k H1 ⟨φ1, k1, h1, x1, s1, r1, o1⟩ => by
    have r1' : k1 = k := r1
    subst r1'
    exact o1.at s1 rfl⟩
abbrev JW (X : Cx) (W : WX) (C : Calls) (a : Expr) (e : E) : Prop := PW X a (tT X.K X.mg W C e)
theorem pw_imp {t t' : TT} (p : PW X a t) (f : ∀ σ H Q, t' σ H Q → t σ H Q) : PW X a t' := ⟨fun wh pins s σ H Q I h => p.run wh pins s σ H Q I (f σ H Q h)⟩
theorem jw_and1 (ha : JT X W C a ea) : JW X W C (.BoolOp .And [a] pos) ea := pw_and1 ha
theorem jw_or1 (ha : JT X W C a ea) : JW X W C (.BoolOp .Or [a] pos) ea := pw_or1 ha
theorem jw_and {rest : List Expr} (ha : JT X W C a ea) (hb : JW X W C (.BoolOp .And (b :: rest) pos) eb) : JW X W C (.BoolOp .And (a :: b :: rest) pos) (.band ea eb) := pw_imp (pw_and ha hb) fun σ H Q ⟨ρ, φ, h, sm, re, o⟩ => by
  rw [evT_and] at o
  exact ⟨ρ, φ, h, sm, re, (Out.bind (rel2 := RI) o).imp fun k H1 ⟨φ1, k1, h1, x1, s1, r1, o1⟩ => by
    have r1' : k1 = k := r1
    subst r1'
    cases k1 with
    | true => exact ⟨ρ, φ1, h1, s1, re.mono x1, o1⟩
    | false => exact (show Out X.K X.mg RI φ1 H1 (atS W σ) Q (.ok false h1) from o1).at s1 rfl⟩
theorem jw_or {rest : List Expr} (ha : JT X W C a ea) (hb : JW X W C (.BoolOp .Or (b :: rest) pos) eb) : JW X W C (.BoolOp .Or (a :: b :: rest) pos) (.bor ea eb) := pw_imp (pw_or ha hb) fun σ H Q ⟨ρ, φ, h, sm, re, o⟩ => by
  rw [evT_or] at o
  exact ⟨ρ, φ, h, sm, re, (Out.bind (rel2 := RI) o).imp fun k H1 ⟨φ1, k1, h1, x1, s1, r1, o1⟩ => by
    have r1' : k1 = k := r1
    subst r1'
    cases k1 with
    | false => exact ⟨ρ, φ1, h1, s1, re.mono x1, o1⟩
    | true => exact (show Out X.K X.mg RI φ1 H1 (atS W σ) Q (.ok true h1) from o1).at s1 rfl⟩
theorem jt_bool (h : JW X W C a ea) : JT X W C a ea := PW.pt h
/-- a if t else b -/
theorem ite_eq (ρ : Env) (h : PH) : evG C (.ite ec ea eb) false ρ h = (evT C ec ρ h).bind fun k h1 => if k then evG C ea false ρ h1 else evG C eb false ρ h1 := by
  unfold evT
  show fin false ((evG C ec true ρ h).bind _) = (asB (evG C ec true ρ h)).bind _
  unfold fin
  rw [if_neg Bool.false_ne_true]
  cases evG C ec true ρ h with
  | ok p h1 =>
    cases p with
    | bl k => cases k <;> rfl
    | _ => rfl
  | ex x h1 => rfl
  | no => rfl
theorem je_ite (hc : JT X W C c ec) (ha : JE X W C a ea) (hb : JE X W C b eb) : JE X W C (.IfExp c a b pos) (.ite ec ea eb) := pe_imp (pe_ifExp hc ha hb) fun σ H Q ⟨ρ, φ, h, sm, re, o⟩ => by
  rw [ite_eq] at o
  exact ⟨ρ, φ, h, sm, re, (Out.bind (rel2 := RI) o).imp fun k H1 ⟨φ1, k1, h1, x1, s1, r1, o1⟩ => by
    have r1' : k1 = k := r1
    subst r1'
    cases k1 with
    | true => exact ⟨ρ, φ1, h1, s1, re.mono x1, o1⟩
    | false => exact ⟨ρ, φ1, h1, s1, re.mono x1, o1⟩⟩
/-! ### argument lists, displays -/
theorem ja_nil : JA X W C [] [] := pa_imp pa_nil fun σ H Q ⟨ρ, φ, h, sm, re, o⟩ => (show Out X.K X.mg (RVs X.K) φ H (atS W σ) Q (.ok [] h) from o).at sm rfl
theorem ja_cons {es : List Expr} {ees : List E} (ha : JE X W C a ea) (hr : JA X W C es ees) (hs : starEach (a :: es) X.env = (false, eval a X.env) :: starEach es X.env := by rfl) : JA X W C (a :: es) (ea :: ees) :=
  pa_imp (pa_cons ha hr hs) fun σ H Q ⟨ρ, φ, h, sm, re, o⟩ =>
    ⟨ρ, φ, h, sm, re, (Out.bind (rel2 := RV X.K) (show Out X.K X.mg (RVs X.K) φ H (atS W σ) Q ((evG C ea false ρ h).bind fun x h1 => (evGs C ees ρ h1).bind fun l h2 => .ok (x :: l) h2) from o)).imp fun x H1 ⟨φ1, va, h1, x1, s1, r1, o1⟩ =>
      ⟨ρ, φ1, h1, s1, re.mono x1, (Out.bind (rel2 := RVs X.K) o1).imp fun xs H2 ⟨φ2, vb, h2, x2, s2, r2, o2⟩ => o2.at s2 (RVs.cons (r1.mono x2) r2)⟩⟩
/-- a list of values, then what is made of them -/
theorem list_of {σ : St} {H : Hp} {Q : VK} {ρ : Env} {φ : List Addr} {h : PH} {es : List E} {f : List PV → PH → R PV} (sm : Sim X.K φ h H) (re : RE X.K φ H ρ σ) (o : Out X.K X.mg (RV X.K) φ H (atS W σ) Q ((evGs C es ρ h).bind fun l h1 => f l h1)) :
    tAs X.K X.mg W C es σ H (fun vs H1 => ∃ φ1 l h1, Sim X.K φ1 h1 H1 ∧ RVs X.K φ1 H1 l vs ∧ Out X.K X.mg (RV X.K) φ1 H1 (atS W σ) Q (f l h1)) :=
  ⟨ρ, φ, h, sm, re, (Out.bind (rel2 := RVs X.K) o).imp fun xs H1 ⟨φ1, l, h1, x1, s1, r1, o1⟩ => ⟨φ1, l, h1, s1, r1, o1⟩⟩
theorem ta_imp {es : List E} {σ : St} {H : Hp} {Q Q' : List V → Hp → Prop} (f : ∀ vs H, Q vs H → Q' vs H) (t : tAs X.K X.mg W C es σ H Q) : tAs X.K X.mg W C es σ H Q' := by
  obtain ⟨ρ, φ, h, sm, re, o⟩ := t
  exact ⟨ρ, φ, h, sm, re, o.imp f⟩
theorem je_tup {es : List Expr} {ees : List E} {k : Nat} (ha : JA X W C es ees) : JE X W C (.Tuple es k pos) (.tup ees) := pe_imp (pe_tup ha) fun σ H Q ⟨ρ, φ, h, sm, re, o⟩ =>
  ta_imp (fun vs H1 ⟨φ1, l, h1, s1, r1, o1⟩ => by
    unfold tupO at o1
    split at o1
    · rename_i hm
      exact ⟨by rw [← r1.length]; exact line_ok hm, o1.tupn s1 r1⟩
    · exact o1.elim) (list_of (f := tupO) sm re o)
theorem je_lst {es : List Expr} {ees : List E} (ha : JA X W C es ees) : JE X W C (.List es pos) (.lst ees) := pe_imp (pe_lst ha) fun σ H Q ⟨ρ, φ, h, sm, re, o⟩ =>
  ta_imp (fun vs H1 ⟨φ1, l, h1, s1, r1, o1⟩ => by
    unfold Sb.alloc at o1
    split at o1
    · rename_i hm
      exact ⟨by rw [← r1.length]; exact line_ok hm, o1.alloc s1 r1⟩
    · exact o1.elim) (list_of (f := Sb.alloc) sm re o)
end
end Sb

set_option Elab.async false
set_option linter.all false
set_option maxRecDepth 100000
set_option maxHeartbeats 4000000
/-! Sb: calls, slices, methods, what loops walk, comprehensions. -/
namespace Sb
open PySem PySem.Spec L2

/-! ### calls of the program's defs -/
def spF (K : PySem.W.Frag) (mg : Str → Option Value) (C : Calls) (fi np : Nat) : Sp := fun vs H Q E => vs.length = np ∧ ∃ φ h ps, Sim K φ h H ∧ RVs K φ H ps vs ∧ Out K mg (RV K) φ H E Q (C fi ps h)
/-- the def named x is the fi-th; ds: the defaults that fill up -/
structure FnI (P : Program) (w : World) (K : PySem.W.Frag) (mg : Str → Option Value) (base : Heap) (C : Calls) (k : Nat) (x : Str) (fi : Nat) (np : Nat) (ds : List Value) : Prop where
  ex : ∃ (fa : Addr) (fd : FuncData) (ps : List Str), ps.length = np ∧ FnOk P w K mg base (L2.CX P w) k fa fd ps (spF K mg C fi np) ∧ mg x = some (.ref fa) ∧ PySem.W.keepIn K (.ref fa) = true ∧ Binds K fd ps ds
theorem evGs_length {C : Calls} : ∀ {es : List E} {ρ : Env} {h h' : PH} {l : List PV}, evGs C es ρ h = .ok l h' → l.length = es.length
  | [], ρ, h, h', l, e => by
    cases e
    rfl
  | e1 :: es, ρ, h, h', l, e => by
    have e' : ((evG C e1 false ρ h).bind fun x h1 => (evGs C es ρ h1).bind fun l h2 => R.ok (x :: l) h2) = .ok l h' := e
    cases z1 : evG C e1 false ρ h with
    | ok x h1 =>
      rw [z1, R.bind_ok] at e'
      cases z2 : evGs C es ρ h1 with
      | ok l2 h2 =>
        rw [z2, R.bind_ok] at e'
        cases e'
        rw [List.length_cons, List.length_cons, evGs_length z2]
      | ex _ _ => rw [z2] at e'; cases e'
      | no => rw [z2] at e'; cases e'
    | ex _ _ => rw [z1] at e'; cases e'
    | no => rw [z1] at e'; cases e'
section
variable {X : Cx} {W : WX} {C : Calls} {a b c : Expr} {as : List Expr} {pos p : Pos} {ea eb ec : E} {ees : List E} {x : Str} {k : Nat}
theorem call_red {fi np : Nat} {ds : List PV} {dvs : List V} {σ : St} {H : Hp} {Q : VK} {ρ : Env} {φ : List Addr} {h : PH} (hl : ees.length + ds.length = np) (rd : ∀ φ H, RVs X.K φ H ds dvs) (sm : Sim X.K φ h H) (re : RE X.K φ H ρ σ)
    (o : Out X.K X.mg (RV X.K) φ H (atS W σ) Q ((evGs C ees ρ h).bind fun l h1 => C fi (l ++ ds) h1)) : tCallSD (spF X.K X.mg C fi np) dvs (WE W) (tAs X.K X.mg W C ees) σ H Q := by
  have key : Out X.K X.mg (RVs X.K) φ H (atS W σ) (fun vs H1 => spF X.K X.mg C fi np (vs ++ dvs) H1 Q (WE W σ)) (evGs C ees ρ h) := by
    cases e : evGs C ees ρ h with
    | ok l h1 =>
      rw [e, R.bind_ok] at o
      intro φ' H' vs x s r
      refine ⟨?_, φ', h1, l ++ ds, s, r.append (rd φ' H'), o.mono x⟩
      rw [List.length_append, ← r.length, ← (rd φ' H').length, evGs_length e]
      exact hl
    | ex y h1 => rw [e] at o; exact o
    | no => rw [e] at o; exact o
  exact ⟨ρ, φ, h, sm, re, key⟩
theorem je_calld {fi np : Nat} {ds : List PV} {dvs : List V} {dus : List Value} (G : FnI X.prog X.w X.K X.mg X.base C k x fi np dus) (rv : Vals dvs dus) (rd : ∀ φ H, RVs X.K φ H ds dvs) (hr : Room k X.A) (tk : Takes X W) (ha : JA X W C (a :: as) ees)
    (hl : ees.length + ds.length = np := by rfl) (hg : Gl X x := by rfl) (hdb : (x == ("__debug__" : Str)) = false := by decide) (he : starEach (a :: as) X.env = (false, eval a X.env) :: starEach as X.env := by rfl) (hpl : (backTo pos (starEach as X.env)).any (·.1) = false := by rfl) :
    JE X W C (.Call (.Name x p) (a :: as) [] pos) (.call fi ees ds) := by
  obtain ⟨fa, fd, ps, hps, F, hm, hk, hb⟩ := G.ex
  exact pe_imp (pe_callSD F hr hg hm hk hb rv (fun σ => passAt tk σ) ha hdb he hpl) fun σ H Q ⟨ρ, φ, h, sm, re, o⟩ => call_red hl rd sm re o
theorem je_call {fi np : Nat} (G : FnI X.prog X.w X.K X.mg X.base C k x fi np []) (hr : Room k X.A) (tk : Takes X W) (ha : JA X W C (a :: as) ees)
    (hl : ees.length + 0 = np := by rfl) (hg : Gl X x := by rfl) (hdb : (x == ("__debug__" : Str)) = false := by decide) (he : starEach (a :: as) X.env = (false, eval a X.env) :: starEach as X.env := by rfl) (hpl : (backTo pos (starEach as X.env)).any (·.1) = false := by rfl) :
    JE X W C (.Call (.Name x p) (a :: as) [] pos) (.call fi ees []) := je_calld (ds := []) (dvs := []) G .nil (fun _ _ => rfl) hr tk ha hl hg hdb he hpl
/-! ### built-ins -/
theorem cb_red {f : List PV → PH → R PV} {σ : St} {H : Hp} {Q : VK} {ρ : Env} {φ : List Addr} {h : PH} (sm : Sim X.K φ h H) (re : RE X.K φ H ρ σ)
    (o : Out X.K X.mg (RV X.K) φ H (atS W σ) Q ((evGs C ees ρ h).bind fun l h1 => f l h1)) : tCB (fun vs H Q => ∃ W', rCa X.K X.mg W' f vs H Q) (tAs X.K X.mg W C ees) σ H Q :=
  ta_imp (fun vs H1 ⟨φ1, l, h1, s1, r1, o1⟩ => ⟨_, φ1, h1, l, s1, r1, o1⟩) (list_of sm re o)
theorem cr_any' {f : Value} {r : XK → List V → Hp → VK → Prop} (h : ∀ W, CallR X f (r W)) : CallR X f (fun vs H Q => ∃ W, r W vs H Q) := fun pins s σ H xs us Q I rs ⟨W, q⟩ => h W pins s σ H xs us Q I rs q
theorem je_bi (bi : BI) {id : String} (hc : ∀ W', CallR X (.builtin id) (rCa X.K X.mg W' (biF bi))) (hm : X.mg x = none) (hv : bootBuiltins x = some (.builtin id)) (ha : JA X W C (a :: as) ees) (hg : Gl X x := by rfl) (hn : x ≠ "__name__" := by decide) (hdb : (x == ("__debug__" : Str)) = false := by decide)
    (he : starEach (a :: as) X.env = (false, eval a X.env) :: starEach as X.env := by rfl) (hpl : (backTo pos (starEach as X.env)).any (·.1) = false := by rfl) : JE X W C (.Call (.Name x p) (a :: as) [] pos) (.bi bi ees) :=
  pe_imp (pe_callB (cr_any' hc) hg hm hv ha hn hdb he hpl) fun σ H Q ⟨ρ, φ, h, sm, re, o⟩ => cb_red sm re o
theorem je_biT (bi : BI) {T : String} (hc : ∀ W', CallR X (.type T) (rCa X.K X.mg W' (biF bi))) (hm : X.mg x = none) (hv : bootBuiltins x = some (.type T)) (ha : JA X W C (a :: as) ees) (hg : Gl X x := by rfl) (hn : x ≠ "__name__" := by decide) (hdb : (x == ("__debug__" : Str)) = false := by decide)
    (he : starEach (a :: as) X.env = (false, eval a X.env) :: starEach as X.env := by rfl) (hpl : (backTo pos (starEach as X.env)).any (·.1) = false := by rfl) : JE X W C (.Call (.Name x p) (a :: as) [] pos) (.bi bi ees) :=
  pe_imp (pe_callTy (cr_any' hc) hg hm hv ha hn hdb he hpl) fun σ H Q ⟨ρ, φ, h, sm, re, o⟩ => cb_red sm re o
/-! ### methods of built-in types -/
theorem tyV_of {K : PySem.W.Frag} {φ : List Addr} {h : PH} {H : Hp} {v : PV} {x : V} {T : Ty} (hT : T = .list ∨ T = .str) (sm : Sim K φ h H) (r : RV K φ H v x) (e : tyOf h v = some T) : tyV K T.nm x H := by
  cases v with
  | non => cases e; rcases hT with z | z <;> cases z
  | bl c => cases e; rcases hT with z | z <;> cases z
  | int i => cases e; rcases hT with z | z <;> cases z
  | str z =>
    cases e
    rw [show x = .str z from r]
    rfl
  | ty t => cases e
  | tup l => cases e; rcases hT with z | z <;> cases z
  | cl l =>
    obtain ⟨ad, vs, e1, q, r'⟩ := r
    cases e
    subst e1
    exact .inl ⟨rfl, vs, q.sq⟩
  | ref n =>
    obtain ⟨ad, e1, q⟩ := r
    subst e1
    unfold tyOf at e
    cases z : h[n]? with
    | none => simp only [z] at e; cases e
    | some o =>
      cases o with
      | lst l =>
        simp only [z] at e
        cases e
        obtain ⟨a', vs, e4, e5, r'⟩ := sm.lst z
        rw [q] at e4
        cases e4
        exact .inl ⟨rfl, vs, SqL.of e5⟩
theorem mr_any {id : String} {r : XK → V → List V → Hp → VK → Prop} (h : ∀ W, MtR X id (r W)) : MtR X id (fun x vs H Q => ∃ W, r W x vs H Q) := fun pins s σ H x xs v us Q I rx rs ⟨W, q⟩ => h W pins s σ H x xs v us Q I rx rs q
theorem je_mth (m : MT) {o : Expr} {eo : E} {name : Str} {apos cpos : Pos} {id : String} (pa : PlainAttrs m.ty.nm) (slot : Slot m.ty.nm name id) (hty : typeOf (.builtin id) = pure (.type "method_descriptor")) (hm : ∀ W', MtR X id (rMt X.K X.mg W' (mtF m))) (ho : JE X W C o eo) (ha : JA X W C (a :: as) ees)
    (hT : m.ty = .list ∨ m.ty = .str := by first | exact .inl rfl | exact .inr rfl) (hbase : attributeBase o name X.env (eval o X.env) = eval o X.env := by rfl)
    (hfew : ((backTo cpos (starEach (a :: as) X.env)).all (fun x => !x.1) && (backToKw cpos (keywordEach [] X.env)).all (fun x => x.1.isSome)
      && decide ((a :: as).length + ([] : List Keyword).length + (if ([] : List Keyword).isEmpty then 0 else 1) < 30)) = true := by rfl)
    (hline : (apos.endLine == cpos.line) = true := by rfl) (hs : starEach (a :: as) X.env = (false, eval a X.env) :: starEach as X.env := by rfl) (hplain : (backTo cpos (starEach as X.env)).any (·.1) = false := by rfl) :
    JE X W C (.Call (.Attribute o name apos) (a :: as) [] cpos) (.mth m eo ees) :=
  pe_imp (pe_bm pa slot hty (mr_any hm) ho ha hbase hfew hline hs hplain) fun σ H Q ⟨ρ, φ, h, sm, re, o⟩ =>
    ⟨ρ, φ, h, sm, re, (Out.bind (rel2 := RV X.K) (show Out X.K X.mg (RV X.K) φ H (atS W σ) Q ((evG C eo false ρ h).bind fun x h1 => if tyOf h1 x = some m.ty then (evGs C ees ρ h1).bind fun l h2 => mtF m x l h2 else .no) from o)).imp fun x H1 ⟨φ1, vx, h1, x1, s1, r1, o1⟩ => by
      split at o1
      · rename_i ht
        refine ⟨tyV_of hT s1 r1 ht, ρ, φ1, h1, s1, re.mono x1, (Out.bind (rel2 := RVs X.K) o1).imp fun xs H2 ⟨φ2, l, h2, x2, s2, r2, o2⟩ => ⟨_, φ2, h2, vx, l, s2, r1.mono x2, r2, o2⟩⟩
      · exact o1.elim⟩
/-! ### slices -/
def tO (K : PySem.W.Frag) (mg : Str → Option Value) (W : WX) (C : Calls) (e : Option E) : TO := fun σ H Q => ∃ ρ φ h, Sim K φ h H ∧ RE K φ H ρ σ ∧ Out K mg RI φ H (atS W σ) Q (evGo C e ρ h)
abbrev JO (X : Cx) (W : WX) (C : Calls) (a : Option Expr) (e : Option E) : Prop := L2.PO X a (tO X.K X.mg W C e)
theorem po_imp {a : Option Expr} {t t' : TO} (p : L2.PO X a t) (f : ∀ σ H Q, t' σ H Q → t σ H Q) : L2.PO X a t' := ⟨fun pins s σ H Q I h => p.run pins s σ H Q I (f σ H Q h)⟩
theorem jo_none : JO X W C none none := po_imp po_none fun σ H Q ⟨ρ, φ, h, sm, re, o⟩ => (show Out X.K X.mg RI φ H (atS W σ) Q (.ok none h) from o).at sm rfl
theorem jo_some (ha : JE X W C a ea) : JO X W C (some a) (some ea) := po_imp (po_some ha) fun σ H Q ⟨ρ, φ, h, sm, re, o⟩ =>
  ⟨ρ, φ, h, sm, re, (Out.bind (rel2 := RV X.K) (show Out X.K X.mg RI φ H (atS W σ) Q ((evG C ea false ρ h).bind _) from o)).imp fun x H1 ⟨φ1, va, h1, x1, s1, r1, o1⟩ => by
    cases va with
    | int i => exact ⟨i, r1, (show Out X.K X.mg RI φ1 H1 (atS W σ) Q (.ok (some i) h1) from o1).at s1 rfl⟩
    | _ => exact (show False from o1).elim⟩
theorem slr_any {r : XK → V → Option Int → Option Int → Hp → VK → Prop} (h : ∀ W, SlR X (r W)) : SlR X (fun x lo hi H Q => ∃ W, r W x lo hi H Q) := fun pins s σ H x v vl vu lo hi sl Q I rx hs pl pu ⟨W, q⟩ => h W pins s σ H x v vl vu lo hi sl Q I rx hs pl pu q
theorem je_slc {lo hi : Option Expr} {el eh : Option E} {p2 : Pos} (ha : JE X W C a ea) (hl : JO X W C lo el) (hh : JO X W C hi eh) : JE X W C (.Subscript a (.Slice lo hi none p2) pos) (.slc ea el eh) :=
  pe_imp (pe_slice (slr_any fun W' => sl_ok (W := W')) ha hl hh) fun σ H Q ⟨ρ, φ, h, sm, re, o⟩ =>
    ⟨ρ, φ, h, sm, re, (Out.bind (rel2 := RV X.K) (show Out X.K X.mg (RV X.K) φ H (atS W σ) Q ((evG C ea false ρ h).bind fun x h1 => (evGo C el ρ h1).bind fun l h2 => (evGo C eh ρ h2).bind fun u h3 => slcop x l u h3) from o)).imp fun x H1 ⟨φ1, va, h1, x1, s1, r1, o1⟩ =>
      ⟨ρ, φ1, h1, s1, re.mono x1, (Out.bind (rel2 := RI) o1).imp fun l H2 ⟨φ2, l1, h2, x2, s2, r2, o2⟩ => by
        have r2' : l1 = l := r2
        subst r2'
        exact ⟨ρ, φ2, h2, s2, (re.mono x1).mono x2, (Out.bind (rel2 := RI) o2).imp fun u H3 ⟨φ3, u1, h3, x3, s3, r3, o3⟩ => by
          have r3' : u1 = u := r3
          subst r3'
          exact ⟨_, φ3, h3, va, s3, (r1.mono x2).mono x3, o3⟩⟩⟩⟩
end
/-! ### what a loop walks -/
structure WalkOk (K : PySem.W.Frag) (J : It) (φ0 : List Addr) (H0 : Hp) (items : List PV) (kp : Keep) : Prop where
  go : ∀ (i : Nat) (φ : List Addr) (h : PH) (H : Hp) (p : PV), Ext φ0 φ H0 H → Sim K φ h H → stays kp h → items[i]? = some p → J.go i H ∧ ∀ v H', J.yld i H v H' → Ext φ φ H H' ∧ Sim K φ h H' ∧ RV K φ H' p v
  stop : ∀ (i : Nat) (φ : List Addr) (h : PH) (H : Hp), Ext φ0 φ H0 H → Sim K φ h H → stays kp h → items.length ≤ i → J.stop i H
noncomputable def evI (C : Calls) (k : ITK) (its : List E) (ρ : Env) (h : PH) : R (List PV × Keep) := (evGs C its ρ h).bind fun l h1 => ofO (walkF k l h1) h1
def relW (K : PySem.W.Frag) (φ : List Addr) (H : Hp) (w : List PV × Keep) (J : It) : Prop := WalkOk K J φ H w.1 w.2
def tI (K : PySem.W.Frag) (mg : Str → Option Value) (W : WX) (C : Calls) (k : ITK) (its : List E) : TI := fun σ H Q => ∃ ρ φ h, Sim K φ h H ∧ RE K φ H ρ σ ∧ Out K mg (relW K) φ H (atS W σ) Q (evI C k its ρ h)
abbrev JI (X : Cx) (W : WX) (C : Calls) (tg a : Expr) (k : ITK) (its : List E) : Prop := PI X tg a (tI X.K X.mg W C k its)
theorem pi_imp {X : Cx} {tg a : Expr} {t t' : TI} (p : PI X tg a t) (f : ∀ σ H Q, t' σ H Q → t σ H Q) : PI X tg a t' := ⟨fun pins s σ H Q I h => p.run pins s σ H Q I (f σ H Q h)⟩
/-- a list or a tuple -/
def iSeq (K : PySem.W.Frag) (tl : TE) : TI := fun σ H R => tl σ H fun x H1 => ∃ a, x = .ref a ∧ (((∃ xs, SqL K H1 a xs) ∧ R (Itl K a) H1) ∨ ((∃ xs, SqT K H1 a xs) ∧ R (Itt K a) H1))
theorem pi_seq {X : Cx} {tg l : Expr} {tl : TE} (hl : PE X l tl) : PI X tg l (iSeq X.K tl) := by
  refine ⟨fun pins s σ H R I h => ?_⟩
  refine thn (hl.run pins s σ H _ I h) fun v s1 ⟨x, H1, I1, r1, q1⟩ => ?_
  obtain ⟨a, e, q1⟩ := q1
  subst e
  cases r1
  rcases q1 with ⟨⟨xs, hq⟩, q⟩ | ⟨⟨xs, hq⟩, q⟩
  · obtain ⟨its, rv, p, hz⟩ := I1.list hq
    refine wpAny_pyIter_list p.isList ?_
    refine ⟨s1.heap.objs.size, [s1.heap.objs.size], _, _, H1, rfl, I1.kept (t' := s1.toks) fun b o e => Heap.get?_push_of_some _ e, turn_list a _, ⟨_, Heap.get?_push_size _ rfl, rfl, rfl⟩, fun b hb => ?_, q⟩
    have e : b = s1.heap.objs.size := by simpa using hb
    subst e
    exact I1.fpOk (Nat.le_refl _) (I1.hok.fresh (Nat.le_refl _))
  · obtain ⟨its, rv, p, hz⟩ := I1.tuple hq
    refine wpAny_pyIter_tuple (show s1.heap.IsTuple a its.toArray from p) ?_
    refine ⟨s1.heap.objs.size, [s1.heap.objs.size], _, _, H1, rfl, I1.kept (t' := s1.toks) fun b o e => Heap.get?_push_of_some _ e, turn_tuple a _, ⟨_, Heap.get?_push_size _ rfl, rfl, rfl⟩, fun b hb => ?_, q⟩
    have e : b = s1.heap.objs.size := by simpa using hb
    subst e
    exact I1.fpOk (Nat.le_refl _) (I1.hok.fresh (Nat.le_refl _))
section
variable {K : PySem.W.Frag} {φ0 : List Addr} {H0 : Hp}
/-- a list that every later heap has as it was -/
theorem walk_list {a : Addr} {items : List PV} {kp : Keep} (st : ∀ φ h H, Ext φ0 φ H0 H → Sim K φ h H → stays kp h → ∃ vs, SqL K H a vs ∧ RVs K φ H items vs) : WalkOk K (Itl K a) φ0 H0 items kp where
  go := fun i φ h H p x s q e => by
    obtain ⟨vs, hs, r⟩ := st φ h H x s q
    obtain ⟨v, e1, rv⟩ := r.get e
    refine ⟨⟨vs, v, hs, e1⟩, fun w H' y => ?_⟩
    obtain ⟨y1, y2⟩ := y
    subst y1
    have := y2 vs hs
    rw [e1] at this
    cases this
    exact ⟨Ext.refl _ _, s, rv⟩
  stop := fun i φ h H x s q e => by
    obtain ⟨vs, hs, r⟩ := st φ h H x s q
    exact ⟨vs, hs, by rw [← r.length]; exact e⟩
theorem walk_tup {a : Addr} {items : List PV} {kp : Keep} (st : ∀ φ h H, Ext φ0 φ H0 H → Sim K φ h H → stays kp h → ∃ vs, SqT K H a vs ∧ RVs K φ H items vs) : WalkOk K (Itt K a) φ0 H0 items kp where
  go := fun i φ h H p x s q e => by
    obtain ⟨vs, hs, r⟩ := st φ h H x s q
    obtain ⟨v, e1, rv⟩ := r.get e
    refine ⟨⟨vs, v, hs, e1⟩, fun w H' y => ?_⟩
    obtain ⟨y1, y2⟩ := y
    subst y1
    have := y2 vs hs
    rw [e1] at this
    cases this
    exact ⟨Ext.refl _ _, s, rv⟩
  stop := fun i φ h H x s q e => by
    obtain ⟨vs, hs, r⟩ := st φ h H x s q
    exact ⟨vs, hs, by rw [← r.length]; exact e⟩
theorem walk_range (n : Int) : WalkOk K (Itr 0 n.toNat) φ0 H0 (rangeP n) [] where
  go := fun i φ h H p x s q e => by
    have hi : i < n.toNat := by
      have := (List.getElem?_eq_some_iff.mp e).1
      unfold rangeP at this
      rw [List.length_map, List.length_range] at this
      exact this
    refine ⟨hi, fun v H' y => ?_⟩
    obtain ⟨y1, y2⟩ := y
    subst y1 y2
    have ep : p = .int (i : Nat) := by
      unfold rangeP at e
      rw [List.getElem?_map, List.getElem?_range hi] at e
      exact (Option.some.inj e).symm
    subst ep
    refine ⟨Ext.refl _ _, s, ?_⟩
    show V.int (0 + (i : Int)) = V.int (i : Int)
    rw [Int.zero_add]
  stop := fun i φ h H x s q e => by
    unfold rangeP at e
    rw [List.length_map, List.length_range] at e
    exact e
theorem zipP_get : ∀ {l k : List PV} {i : Nat} {p : PV}, (zipP l k)[i]? = some p → ∃ a b, l[i]? = some a ∧ k[i]? = some b ∧ p = .tup [a, b]
  | [], _, _, _, e => by simp [zipP] at e
  | _ :: _, [], _, _, e => by simp [zipP] at e
  | a :: l, b :: k, 0, p, e => by
    simp [zipP] at e
    exact ⟨a, b, rfl, rfl, e.symm⟩
  | a :: l, b :: k, i + 1, p, e => by
    simp [zipP] at e
    simpa using zipP_get e
theorem zipP_len : ∀ {l k : List PV} {i : Nat}, (zipP l k).length ≤ i → l.length ≤ i ∨ k.length ≤ i
  | [], _, i, _ => .inl (Nat.zero_le _)
  | _ :: _, [], i, _ => .inr (Nat.zero_le _)
  | a :: l, b :: k, i, e => by
    have e' : (zipP l k).length + 1 ≤ i := e
    obtain ⟨j, rfl⟩ : ∃ j, i = j + 1 := ⟨i - 1, by omega⟩
    rcases zipP_len (l := l) (k := k) (i := j) (by omega) with z | z
    · exact .inl (by rw [List.length_cons]; omega)
    · exact .inr (by rw [List.length_cons]; omega)
theorem walk_zipL {a b : Addr} {l k : List PV} {kp : Keep} (st : ∀ φ h H, Ext φ0 φ H0 H → Sim K φ h H → stays kp h → ∃ vs ws, SqL K H a vs ∧ RVs K φ H l vs ∧ SqL K H b ws ∧ RVs K φ H k ws) : WalkOk K (Itz K a b) φ0 H0 (zipP l k) kp where
  go := fun i φ h H p x s q e => by
    obtain ⟨vs, ws, hs, r, hs2, r2⟩ := st φ h H x s q
    obtain ⟨pa, pb, ea, eb, rfl⟩ := zipP_get e
    obtain ⟨v, e1, rv⟩ := r.get ea
    obtain ⟨w, e2, rw'⟩ := r2.get eb
    refine ⟨⟨vs, ws, v, w, hs, hs2, e1, e2⟩, fun u H' y => ?_⟩
    obtain ⟨T, v', w', y1, nT, y2, y3, y4⟩ := y
    subst y1 y2
    have z1 := y3 vs hs
    have z2 := y4 ws hs2
    rw [e1] at z1
    rw [e2] at z2
    cases z1
    cases z2
    exact ⟨Ext.new nT, s.new nT, T, [v, w], rfl, .inl ⟨.inl upd_same, s.out nT⟩, (RVs.cons rv (RVs.cons rw' RVs.nil)).mono (Ext.new nT)⟩
  stop := fun i φ h H x s q e => by
    obtain ⟨vs, ws, hs, r, hs2, r2⟩ := st φ h H x s q
    refine ⟨vs, ws, hs, hs2, ?_⟩
    rw [← r.length, ← r2.length]
    exact zipP_len e
theorem walk_zipT {a b : Addr} {l k : List PV} {kp : Keep} (st : ∀ φ h H, Ext φ0 φ H0 H → Sim K φ h H → stays kp h → ∃ vs ws, SqT K H a vs ∧ RVs K φ H l vs ∧ SqT K H b ws ∧ RVs K φ H k ws) : WalkOk K (RZ.ItzT K a b) φ0 H0 (zipP l k) kp where
  go := fun i φ h H p x s q e => by
    obtain ⟨vs, ws, hs, r, hs2, r2⟩ := st φ h H x s q
    obtain ⟨pa, pb, ea, eb, rfl⟩ := zipP_get e
    obtain ⟨v, e1, rv⟩ := r.get ea
    obtain ⟨w, e2, rw'⟩ := r2.get eb
    refine ⟨⟨vs, ws, v, w, hs, hs2, e1, e2⟩, fun u H' y => ?_⟩
    obtain ⟨T, v', w', y1, nT, y2, y3, y4⟩ := y
    subst y1 y2
    have z1 := y3 vs hs
    have z2 := y4 ws hs2
    rw [e1] at z1
    rw [e2] at z2
    cases z1
    cases z2
    exact ⟨Ext.new nT, s.new nT, T, [v, w], rfl, .inl ⟨.inl upd_same, s.out nT⟩, (RVs.cons rv (RVs.cons rw' RVs.nil)).mono (Ext.new nT)⟩
  stop := fun i φ h H x s q e => by
    obtain ⟨vs, ws, hs, r, hs2, r2⟩ := st φ h H x s q
    refine ⟨vs, ws, hs, hs2, ?_⟩
    rw [← r.length, ← r2.length]
    exact zipP_len e
end
theorem Sim.stays_at {K : PySem.W.Frag} {φ : List Addr} {h : PH} {H : Hp} {n : Nat} {l : List PV} {kp : Keep} {a : Addr} (s : Sim K φ h H) (q : stays kp h) (m : (n, l) ∈ kp) (e : φ[n]? = some a) : ∃ vs, SqL K H a vs ∧ RVs K φ H l vs := by
  obtain ⟨a', vs, e1, e2, r⟩ := s.lst (q (n, l) m)
  rw [e] at e1
  cases e1
  exact ⟨vs, SqL.of e2, r⟩
section
variable {X : Cx} {W : WX} {C : Calls} {a b c tg : Expr} {as : List Expr} {pos p : Pos} {ea eb ec : E} {ees : List E} {x : Str} {k : Nat}
theorem ji_seq (ha : JE X W C a ea) : JI X W C tg a .seq [ea] := pi_imp (pi_seq ha) fun σ H Q ⟨ρ, φ, h, sm, re, o⟩ => by
  have o' : Out X.K X.mg (relW X.K) φ H (atS W σ) Q ((evG C ea false ρ h).bind fun x h1 => ofO (walkF .seq [x] h1) h1) := by
    have e : evI C .seq [ea] ρ h = (evG C ea false ρ h).bind fun x h1 => ofO (walkF .seq [x] h1) h1 := by
      show (((evG C ea false ρ h).bind fun x h1 => ((R.ok [] h1 : R (List PV)).bind fun l h2 => R.ok (x :: l) h2)).bind fun l h1 => ofO (walkF .seq l h1) h1) = _
      cases evG C ea false ρ h <;> rfl
    rw [← e]
    exact o
  refine ⟨ρ, φ, h, sm, re, (Out.bind (rel2 := RV X.K) o').imp fun x H1 ⟨φ1, va, h1, x1, s1, r1, o1⟩ => ?_⟩
  obtain ⟨w, e, q⟩ := o1.some
  have e' : walkSeq [va] h1 = some w := e
  cases va with
  | cl l =>
    cases e'
    obtain ⟨ad, vs, hx, hq, r⟩ := r1
    exact ⟨ad, hx, .inl ⟨⟨vs, hq.sq⟩, q φ1 H1 _ (Ext.refl _ _) s1 (walk_list fun φ h H x s _ => ⟨vs, (hq.mono x).sq, r.mono x⟩)⟩⟩
  | ref n =>
    simp only [walkSeq] at e'
    split at e'
    · rename_i l e3
      cases e'
      obtain ⟨ad, hx, e4⟩ := r1
      obtain ⟨a', vs, e5, e6, r⟩ := s1.lst e3
      rw [e4] at e5
      cases e5
      exact ⟨ad, hx, .inl ⟨⟨vs, SqL.of e6⟩, q φ1 H1 _ (Ext.refl _ _) s1 (walk_list fun φ h H x s st => s.stays_at st List.mem_cons_self (x.at e4))⟩⟩
    · cases e'
  | tup l =>
    cases e'
    obtain ⟨ad, vs, hx, hq, r⟩ := r1
    exact ⟨ad, hx, .inr ⟨⟨vs, hq.sq⟩, q φ1 H1 _ (Ext.refl _ _) s1 (walk_tup fun φ h H x s _ => ⟨vs, (hq.mono x).sq, r.mono x⟩)⟩⟩
  | _ => cases e'
theorem ji_range (hm : X.mg "range" = none) (ha : JA X W C [a] [ea]) (hg : Gl X "range" := by rfl) (hs : starEach [a] X.env = [(false, eval a X.env)] := by rfl) : JI X W C tg (.Call (.Name "range" p) [a] [] pos) .range [ea] :=
  pi_imp (pi_range1 hg hm ha hs) fun σ H Q ⟨ρ, φ, h, sm, re, o⟩ => by
    refine ⟨ρ, φ, h, sm, re, (Out.bind (rel2 := RVs X.K) (show Out X.K X.mg (relW X.K) φ H (atS W σ) Q ((evGs C [ea] ρ h).bind _) from o)).imp fun vs H1 ⟨φ1, l, h1, x1, s1, r1, o1⟩ => ?_⟩
    obtain ⟨w, e, q⟩ := o1.some
    change walkRange l h1 = some w at e
    unfold walkRange at e
    split at e
    · rename_i n
      split at e
      · rename_i hn
        cases e
        obtain ⟨v, e1, rv⟩ := r1.one
        exact ⟨n, by rw [e1, show v = .int n from rv], hn.2, hn.1, q φ1 H1 _ (Ext.refl _ _) s1 (walk_range n)⟩
      · cases e
    · cases e
theorem ji_zip {elts : List Expr} {kk : Nat} {tpos : Pos} (hm : X.mg "zip" = none) (ha : JA X W C [a, b] [ea, eb]) (hg : Gl X "zip" := by rfl) (hs : starEach [a, b] X.env = (false, eval a X.env) :: starEach [b] X.env := by rfl) (hpl : (backTo pos (starEach [b] X.env)).any (·.1) = false := by rfl) :
    JI X W C (.Tuple elts kk tpos) (.Call (.Name "zip" p) [a, b] [] pos) .zip [ea, eb] :=
  pi_imp (RZ.pi_zipA hg hm ha hs hpl) fun σ H Q ⟨ρ, φ, h, sm, re, o⟩ => by
    refine ⟨ρ, φ, h, sm, re, (Out.bind (rel2 := RVs X.K) (show Out X.K X.mg (relW X.K) φ H (atS W σ) Q ((evGs C [ea, eb] ρ h).bind _) from o)).imp fun vs H1 ⟨φ1, l, h1, x1, s1, r1, o1⟩ => ?_⟩
    obtain ⟨w, e, q⟩ := o1.some
    change walkZip l h1 = some w at e
    unfold walkZip at e
    split at e
    · rename_i l1 l2
      cases e
      obtain ⟨v, w, e1, rv, rw'⟩ := r1.two
      obtain ⟨ad, vs1, hx, hq, r⟩ := rv
      obtain ⟨bd, vs2, hx2, hq2, r2⟩ := rw'
      exact ⟨ad, bd, vs1, vs2, by rw [e1, hx, hx2], .inr ⟨hq.sq, hq2.sq, q φ1 H1 _ (Ext.refl _ _) s1 (walk_zipT fun φ h H x s _ => ⟨vs1, vs2, (hq.mono x).sq, r.mono x, (hq2.mono x).sq, r2.mono x⟩)⟩⟩
    · rename_i m n
      split at e
      · rename_i l1 l2 e3 e4
        cases e
        obtain ⟨v, w, e1, rv, rw'⟩ := r1.two
        obtain ⟨ad, hx, e5⟩ := rv
        obtain ⟨bd, hx2, e6⟩ := rw'
        obtain ⟨a', vs1, e7, e8, r⟩ := s1.lst e3
        obtain ⟨b', vs2, e9, e10, r2⟩ := s1.lst e4
        rw [e5] at e7
        cases e7
        rw [e6] at e9
        cases e9
        refine ⟨ad, bd, vs1, vs2, by rw [e1, hx, hx2], .inl ⟨SqL.of e8, SqL.of e10, q φ1 H1 _ (Ext.refl _ _) s1 (walk_zipL fun φ h H x s st => ?_)⟩⟩
        obtain ⟨ws1, g1, g2⟩ := s.stays_at st List.mem_cons_self (x.at e5)
        obtain ⟨ws2, g3, g4⟩ := s.stays_at st (List.mem_cons_of_mem _ List.mem_cons_self) (x.at e6)
        exact ⟨ws1, ws2, g1, g2, g3, g4⟩
      · cases e
    · cases e
end
/-! ### a loop's target -/
def gNs : List Nat → TGs
  | [] => gNil
  | i :: is => gCons (gName i) (gNs is)
def gT (K : PySem.W.Frag) (is : List Nat) (one : Bool) : TG := match one, is with
  | true, [i] => gName i
  | true, _ => fun _ _ _ _ => False
  | false, is => gTup K is.length (gNs is)
def setV : List Nat → List V → St → St
  | i :: is, v :: vs, σ => setV is vs (σ.set i (some v))
  | _, _, σ => σ
theorem gNs_ok {H : Hp} {Q : St → Hp → Prop} : ∀ {is : List Nat} {vs : List V} {σ : St}, is.length = vs.length → Q (setV is vs σ) H → gNs is vs σ H Q
  | [], [], σ, _, q => ⟨rfl, q⟩
  | i :: is, v :: vs, σ, e, q => ⟨v, vs, rfl, gNs_ok (is := is) (by simpa using e) q⟩
  | [], _ :: _, _, e, _ => by simp at e
  | _ :: _, [], _, e, _ => by simp at e
theorem setAll_ok {K : PySem.W.Frag} {φ : List Addr} {H : Hp} : ∀ {is : List Nat} {l : List PV} {vs : List V} {ρ ρ' : Env} {σ : St}, RE K φ H ρ σ → RVs K φ H l vs → setAll ρ is l = some ρ' → RE K φ H ρ' (setV is vs σ) ∧ is.length = vs.length
  | [], [], vs, ρ, ρ', σ, h, r, e => by
    cases e
    have : vs = [] := r
    subst this
    exact ⟨h, rfl⟩
  | i :: is, p :: l, vs, ρ, ρ', σ, h, r, e => by
    obtain ⟨v, t, e1, q, s⟩ := r
    subst e1
    obtain ⟨h1, h3⟩ := setAll_ok (is := is) (h.set i q) s e
    exact ⟨h1, by rw [List.length_cons, List.length_cons, h3]⟩
  | [], _ :: _, _, _, _, _, _, _, e => by cases e
  | _ :: _, [], _, _, _, _, _, _, e => by cases e
/-- which names were stored -/
def wipesOk (is : List Nat) (σ σ' : St) : Prop := ∀ vs : List Nat, (∀ i ∈ is, i ∈ vs) → L2.wipe σ' vs = L2.wipe σ vs
theorem wipe_set {σ : St} {i : Nat} {v : Option V} : ∀ {vs : List Nat}, i ∈ vs → L2.wipe (σ.set i v) vs = L2.wipe σ vs
  | [], h => by simp at h
  | j :: vs, h => by
    show (L2.wipe (σ.set i v) vs).set j none = (L2.wipe σ vs).set j none
    by_cases e : i ∈ vs
    · rw [wipe_set e]
    · have ij : i = j := by
        rcases List.mem_cons.mp h with z | z
        · exact z
        · exact absurd z e
      subst ij
      rw [wipe_out' e]
      rw [List.set_set]
where
  wipe_out' {σ : St} {i : Nat} {v : Option V} : ∀ {vs : List Nat}, i ∉ vs → L2.wipe (σ.set i v) vs = (L2.wipe σ vs).set i v
    | [], _ => rfl
    | j :: vs, h => by
      show (L2.wipe (σ.set i v) vs).set j none = ((L2.wipe σ vs).set j none).set i v
      rw [wipe_out' (fun z => h (List.mem_cons_of_mem _ z)), List.set_comm _ _ (fun z => h (by rw [z]; exact List.mem_cons_self))]
theorem wipe_setV {σ : St} {ws : List Nat} : ∀ {is : List Nat} {vs : List V} {σ : St}, (∀ i ∈ is, i ∈ ws) → L2.wipe (setV is vs σ) ws = L2.wipe σ ws
  | [], _, σ, _ => rfl
  | _ :: _, [], σ, _ => rfl
  | i :: is, v :: vs, σ, h => by
    show L2.wipe (setV is vs (σ.set i (some v))) ws = _
    rw [wipe_setV (σ := σ) (is := is) (fun j hj => h j (List.mem_cons_of_mem _ hj)), wipe_set (h i List.mem_cons_self)]
theorem wipe_wipe {σ : St} : ∀ {vs : List Nat}, ∀ ws : List Nat, (∀ i ∈ vs, i ∈ ws) → L2.wipe (L2.wipe σ vs) ws = L2.wipe σ ws
  | [], ws, _ => rfl
  | j :: vs, ws, h => by
    show L2.wipe ((L2.wipe σ vs).set j none) ws = _
    rw [wipe_set (h j List.mem_cons_self)]
    exact wipe_wipe ws fun i hi => h i (List.mem_cons_of_mem _ hi)
theorem gT_ok {K : PySem.W.Frag} {φ : List Addr} {H : Hp} {is : List Nat} {one : Bool} {p : PV} {v : V} {ρ ρ' : Env} {σ : St} {Q : St → Hp → Prop} (re : RE K φ H ρ σ) (r : RV K φ H p v) (e : setTg ρ is one p = some ρ')
    (q : ∀ σ', RE K φ H ρ' σ' → wipesOk is σ σ' → Q σ' H) : gT K is one v σ H Q := by
  unfold setTg at e
  split at e
  · rename_i i
    cases e
    exact q _ (re.set i r) fun vs h => wipe_set (h i List.mem_cons_self)
  · rename_i l
    obtain ⟨ad, vs, hx, hq, r'⟩ := r
    obtain ⟨h1, h2⟩ := setAll_ok re r' e
    exact ⟨ad, vs, hx, hq.sq, h2.symm, gNs_ok h2 (q _ h1 fun ws h => wipe_setV (σ := σ) h)⟩
  · cases e
end Sb

set_option Elab.async false
set_option linter.all false
set_option maxRecDepth 100000
set_option maxHeartbeats 4000000
/-! Sb: comprehensions, statements. -/
namespace Sb
open PySem PySem.Spec L2

/-- nothing is let out -/
abbrev W0 : WX := fun _ _ _ _ => False
theorem Out.calm_bind {K : PySem.W.Frag} {mg : Str → Option Value} {α β γ δ : Type} {rel : List Addr → Hp → α → β → Prop} {rel2 : List Addr → Hp → γ → δ → Prop} {φ0 φ : List Addr} {H0 H : Hp} {W W' : XK} {Q : β → Hp → Prop} {m : R γ} {f : γ → PH → R α} (h : Out K mg rel φ0 H0 W Q (m.calm.bind f)) :
    Out K mg rel2 φ H W' (fun b H' => ∃ φ' a h1, Ext φ φ' H H' ∧ Sim K φ' h1 H' ∧ rel2 φ' H' a b ∧ Out K mg rel φ0 H0 W Q (f a h1)) m := by
  cases m with
  | ok a h1 => exact fun φ' H' b x s r => ⟨φ', a, h1, x, s, r, h⟩
  | ex x h1 => exact (show False from h).elim
  | no => exact h
def tCond (K : PySem.W.Frag) (mg : Str → Option Value) (C : Calls) : Option E → TT
  | none => tYes
  | some e => tT K mg W0 C e
theorem cond_ok {K : PySem.W.Frag} {mg : Str → Option Value} {C : Calls} {cond : Option E} {σ : St} {H : Hp} {ρ : Env} {φ : List Addr} {h : PH} {Q : Bool → Hp → Prop} (sm : Sim K φ h H) (re : RE K φ H ρ σ) (o : Out K mg RI φ H (fun _ _ _ => False) Q (evGc C cond ρ h)) : tCond K mg C cond σ H Q := by
  cases cond with
  | none => exact (show Out K mg RI φ H (fun _ _ _ => False) Q (.ok true h) from o).at sm rfl
  | some e => exact ⟨ρ, φ, h, sm, re, o⟩
theorem R.bind_bind {α β γ : Type} (m : R α) (f : α → PH → R β) (g : β → PH → R γ) : (m.bind f).bind g = m.bind fun a h => (f a h).bind g := by
  cases m <;> rfl
theorem R.ite_bind {α β : Type} (c : Prop) [Decidable c] (m n : R α) (g : α → PH → R β) : (if c then m else n).bind g = if c then m.bind g else n.bind g := by
  split <;> rfl
/-- the loop of a comprehension, as the layer reads it -/
theorem comp_red {K : PySem.W.Frag} {mg : Str → Option Value} {W : WX} {C : Calls} {elt : E} {is : List Nat} {one : Bool} {k : ITK} {its : List E} {cond : Option E} {own : List Nat} (his : ∀ i ∈ is, i ∈ own) {σ : St} {H : Hp} {Q : VK} (t : tE K mg W C (.comp elt is one k its cond own) σ H Q) :
    tLc (tI K mg W C k its) (gT K is one) (tCond K mg C cond) (tE K mg W0 C elt) own σ H Q := by
  obtain ⟨ρ, φ, h, sm, re, o⟩ := t
  have o' : Out K mg (RV K) φ H (atS W σ) Q ((evI C k its ρ h).bind fun w h1 => (compLoop w.2 (fun x => setTg (wipeP ρ own) is one x) (fun ρ1 h2 => (evGc C cond ρ1 h2).calm) (fun ρ1 h2 => (evG C elt false ρ1 h2).calm) w.1 [] h1).bind fun l h2 => alloc l h2) := by
    have e : evG C (.comp elt is one k its cond own) false ρ h = (evI C k its ρ h).bind fun w h1 => (compLoop w.2 (fun x => setTg (wipeP ρ own) is one x) (fun ρ1 h2 => (evGc C cond ρ1 h2).calm) (fun ρ1 h2 => (evG C elt false ρ1 h2).calm) w.1 [] h1).bind fun l h2 => alloc l h2 := by
      unfold evI
      rw [R.bind_bind]
      show ((evGs C its ρ h).bind _) = _
      congr 1
      funext l h1
      cases walkF k l h1 with
      | none => rfl
      | some w => rfl
    rw [← e]
    exact o
  refine ⟨ρ, φ, h, sm, re, (Out.bind (rel2 := relW K) o').imp fun J H1 ⟨φ1, w, h1, x1, s1, wk, o1⟩ => ?_⟩
  obtain ⟨items, kp⟩ := w
  intro D hD
  have wk : WalkOk K J φ1 H1 items kp := wk
  have re1 := (re.mono x1).wipe own
  refine ⟨fun i m H2 => ∃ φ2 h2 acc ws, m = (items.drop i).length ∧ Ext φ1 φ2 H1 H2 ∧ Sim K φ2 h2 H2 ∧ D ∉ φ2 ∧ H2 D = some (.lst ws) ∧ RVs K φ2 H2 acc ws ∧
    Out K mg (RV K) φ1 H1 (atS W σ) Q ((compLoop kp (fun x => setTg (wipeP ρ own) is one x) (fun ρ1 h2 => (evGc C cond ρ1 h2).calm) (fun ρ1 h2 => (evG C elt false ρ1 h2).calm) (items.drop i) acc h2).bind fun l h2 => alloc l h2),
    ⟨items.length, φ1, h1, [], [], rfl, Ext.new hD, s1.new hD, s1.out hD, upd_same, rfl, o1⟩, ?_⟩
  rintro i m H2 ⟨φ2, h2, acc, ws, hm, x2, s2, nD, hDl, ra, o2⟩
  cases e : items.drop i with
  | nil =>
    rw [e] at o2
    unfold compLoop at o2
    split at o2
    · rename_i hs
      refine .inl ⟨wk.stop i φ2 h2 H2 x2 s2 hs (List.drop_eq_nil_iff.mp e), ?_⟩
      have o3 : Out K mg (RV K) φ1 H1 (atS W σ) Q (alloc acc h2) := o2
      unfold alloc at o3
      split at o3
      · refine o3 (φ2 ++ [D]) H2 (.ref D) (x2.adopt hD) (s2.adopt hDl nD ra) ⟨D, rfl, ?_⟩
        rw [← s2.len, List.getElem?_append_right (Nat.le_refl _), Nat.sub_self]
        rfl
      · exact o3.elim
    · exact (show False from o2).elim
  | cons p rest =>
    have ei : items[i]? = some p := by
      have := congrArg (·[0]?) e
      simpa using this
    have er : items.drop (i + 1) = rest := by
      rw [← List.drop_drop, e]
      rfl
    rw [e] at o2
    unfold compLoop at o2
    split at o2
    · rename_i hs
      obtain ⟨hgo, hy⟩ := wk.go i φ2 h2 H2 p x2 s2 hs ei
      refine .inr ⟨hgo, fun H3 => ∃ φ2 h2 acc ws, Ext φ1 φ2 H1 H3 ∧ Sim K φ2 h2 H3 ∧ D ∉ φ2 ∧ H3 D = some (.lst ws) ∧ RVs K φ2 H3 acc ws ∧
        Out K mg (RV K) φ1 H1 (atS W σ) Q ((compLoop kp (fun x => setTg (wipeP ρ own) is one x) (fun ρ1 h2 => (evGc C cond ρ1 h2).calm) (fun ρ1 h2 => (evG C elt false ρ1 h2).calm) rest acc h2).bind fun l h2 => alloc l h2), fun H3 z => ?_, fun v H3 y => ?_⟩
      · obtain ⟨φ3, h3, acc3, ws3, z1, z2, z3, z4, z5, z6⟩ := z
        refine ⟨rest.length, by rw [hm, e, List.length_cons]; omega, φ3, h3, acc3, ws3, by rw [er], z1, z2, z3, z4, z5, ?_⟩
        rw [er]
        exact z6
      · obtain ⟨ex, sx, rx⟩ := hy v H3 y
        cases eb : setTg (wipeP ρ own) is one p with
        | none => simp only [eb] at o2; exact (show False from o2).elim
        | some ρ1 =>
          simp only [eb] at o2
          have xx := x2.trans ex
          have hD3 : H3 D = some (.lst ws) := ex.keep D _ hDl nD
          refine gT_ok (re1.mono xx) rx eb fun σ2 re2 wp => ⟨by rw [wp own his, wipe_wipe own fun _ z => z], ?_⟩
          have o3 := o2
          rw [R.bind_bind] at o3
          refine cond_ok sx re2 ((Out.calm_bind (rel2 := RI) (W' := fun _ _ _ => False) o3).imp fun b H4 ⟨φ4, b1, h4, x4, s4, r4, o4⟩ => ?_)
          have r4' : b1 = b := r4
          subst r4'
          have hD4 : H4 D = some (.lst ws) := x4.keep D _ hD3 nD
          have nD4 : D ∉ φ4 := fun z => by
            have := x4.fresh D z nD
            rw [hD3] at this
            cases this
          cases b1 with
          | false =>
            simp only [Bool.false_eq_true, if_false] at o4 ⊢
            exact ⟨φ4, h4, acc, ws, xx.trans x4, s4, nD4, hD4, (ra.mono ex).mono x4, o4⟩
          | true =>
            simp only [if_true] at o4 ⊢
            rw [R.bind_bind] at o4
            refine ⟨ρ1, φ4, h4, s4, re2.mono x4, (Out.calm_bind (rel2 := RV K) (W' := fun _ _ _ => False) o4).imp fun y H5 ⟨φ5, v5, h5, x5, s5, r5, o5⟩ => ?_⟩
            have hD5 : H5 D = some (.lst ws) := x5.keep D _ hD4 nD4
            have nD5 : D ∉ φ5 := fun z => by
              have := x5.fresh D z nD4
              rw [hD4] at this
              cases this
            have ra5 := ((ra.mono ex).mono x4).mono x5
            split at o5
            · rename_i hl
              refine ⟨ws, hD5, by rw [← ra.length]; exact line_lt hl, φ5, h5, acc ++ [v5], ws ++ [y], ((xx.trans x4).trans x5).aside hD, s5.aside hD5 nD5, nD5, upd_same, ?_, o5⟩
              exact (ra5.append (RVs.cons r5 RVs.nil)).monoK (Kp.aside hD5)
            · exact (show False from o5).elim
    · exact (show False from o2).elim
section
variable {X : Cx} {W : WX} {C : Calls}
theorem je_comp {elt tg iter : Expr} {ifs : List Expr} {scope : Scope} {own : List (Str × Nat)} {pos : Pos} {ee : E} {is : List Nat} {one : Bool} {k : ITK} {its : List E} {cond : Option E} (hc : X.calm = true) (hN : X.N.Nodup) (hi : JI X W C tg iter k its) (ok : BlkOk X.N X.env.scope scope own)
    (hg : ∀ (s : Shared) (H : Hp) (C : Addr) (cl : List (Str × Addr)) (fp : List Addr), PG (X.blk s H scope (compEnvC scope cl C X.env) fp) tg (gT X.K is one)) (ht : ∀ (s : Shared) (H : Hp) (C' : Addr) (cl : List (Str × Addr)) (fp : List Addr), PTs (X.blk s H scope (compEnvC scope cl C' X.env) fp) ifs (tCond X.K X.mg C cond))
    (he : ∀ (s : Shared) (H : Hp) (C' : Addr) (cl : List (Str × Addr)) (fp : List Addr), JE (X.blk s H scope (compEnvC scope cl C' X.env) fp) W0 C elt ee) (his : ∀ i ∈ is, i ∈ own.map (·.2) := by decide) (hs : ∀ x, foldedSetIterable iter X.env x = pure x := by intro _; rfl) :
    JE X W C (.ListComp elt [⟨tg, iter, ifs, 0⟩] scope pos) (.comp ee is one k its cond (own.map (·.2))) := pe_imp (pe_lc hc hN hi ok hg ht he hs) fun σ H Q t => comp_red his t
end
/-! ### statements -/
def OutS (K : PySem.W.Frag) (mg : Str → Option Value) (φ : List Addr) (H : Hp) (W : WX) (D : Ends) : RS → Prop
  | .nx ρ h => ∀ φ' H' σ', Ext φ φ' H H' → Sim K φ' h H' → RE K φ' H' ρ σ' → D.nx σ' H'
  | .rt v h => ∀ φ' H' x, Ext φ φ' H H' → Sim K φ' h H' → RV K φ' H' v x → D.rt x H'
  | .bk ρ h => ∀ φ' H' σ', Ext φ φ' H H' → Sim K φ' h H' → RE K φ' H' ρ σ' → D.bk σ' H'
  | .ct ρ h => ∀ φ' H' σ', Ext φ φ' H H' → Sim K φ' h H' → RE K φ' H' ρ σ' → D.ct σ' H'
  | .ex x ρ h => ∀ φ' H' σ' cls d, Ext φ φ' H H' → Sim K φ' h H' → RE K φ' H' ρ σ' → RX K mg φ' H' x cls d → W cls d σ' H'
  | .no => False
section
variable {K : PySem.W.Frag} {mg : Str → Option Value} {φ φ' : List Addr} {H H' : Hp} {W : WX} {D : Ends}
theorem OutS.mono (x : Ext φ φ' H H') : ∀ {m : RS}, OutS K mg φ H W D m → OutS K mg φ' H' W D m
  | .nx _ _, h => fun φ2 H2 b y s r => h φ2 H2 b (x.trans y) s r
  | .rt _ _, h => fun φ2 H2 b y s r => h φ2 H2 b (x.trans y) s r
  | .bk _ _, h => fun φ2 H2 b y s r => h φ2 H2 b (x.trans y) s r
  | .ct _ _, h => fun φ2 H2 b y s r => h φ2 H2 b (x.trans y) s r
  | .ex _ _ _, h => fun φ2 H2 b c d y s r => h φ2 H2 b c d (x.trans y) s r
  | .no, h => h
/-- an expression, then the rest of the statement -/
theorem OutS.st {α β : Type} {rel : List Addr → Hp → α → β → Prop} {m : R α} {f : α → PH → RS} {ρ : Env} {σ : St} (re : RE K φ H ρ σ) (h : OutS K mg φ H W D (m.st ρ f)) :
    Out K mg rel φ H (atS W σ) (fun b H' => ∃ φ' a h1, Ext φ φ' H H' ∧ Sim K φ' h1 H' ∧ rel φ' H' a b ∧ OutS K mg φ' H' W D (f a h1)) m := by
  cases m with
  | ok a h1 => exact fun φ' H' b x s r => ⟨φ', a, h1, x, s, r, h.mono x⟩
  | ex y h1 => exact fun φ' H' c d x s r => h φ' H' σ c d x s (re.mono x) r
  | no => exact h
theorem OutS.atN {ρ : Env} {h : PH} {σ : St} (o : OutS K mg φ H W D (.nx ρ h)) (s : Sim K φ h H) (re : RE K φ H ρ σ) : D.nx σ H := o φ H σ (Ext.refl _ _) s re
end
def tS (K : PySem.W.Frag) (mg : Str → Option Value) (W : WX) (C : Calls) (s : S) : TS := fun D σ H => ∃ ρ φ h, Sim K φ h H ∧ RE K φ H ρ σ ∧ OutS K mg φ H W D (exS C s ρ h)
def tSs (K : PySem.W.Frag) (mg : Str → Option Value) (W : WX) (C : Calls) (s : List S) : TS := fun D σ H => ∃ ρ φ h, Sim K φ h H ∧ RE K φ H ρ σ ∧ OutS K mg φ H W D (exSs C s ρ h)
abbrev JS (X : Cx) (W : WX) (C : Calls) (a : Stmt) (s : S) : Prop := PS X a (tS X.K X.mg W C s)
abbrev JSs (X : Cx) (W : WX) (C : Calls) (a : List Stmt) (s : List S) : Prop := PSs X a (tSs X.K X.mg W C s)
theorem ps_imp {X : Cx} {a : Stmt} {t t' : TS} (p : PS X a t) (f : ∀ D σ H, t' D σ H → t D σ H) : PS X a t' := ⟨fun pins s σ H D I h => p.run pins s σ H D I (f D σ H h)⟩
theorem pss_imp {X : Cx} {a : List Stmt} {t t' : TS} (p : PSs X a t) (f : ∀ D σ H, t' D σ H → t D σ H) : PSs X a t' := ⟨fun pins s σ H D I h => p.run pins s σ H D I (f D σ H h)⟩
section
variable {X : Cx} {W : WX} {C : Calls} {a b c : Expr} {st : Stmt} {sts rest : List Stmt} {pos : Pos} {ea eb ec : E} {s : S} {ss ss2 : List S}
theorem jss_nil : JSs X W C [] [] := pss_imp pss_nil fun D σ H ⟨ρ, φ, h, sm, re, o⟩ => (show OutS X.K X.mg φ H W D (.nx ρ h) from o).atN sm re
theorem jss_cons (h1 : JS X W C st s) (h2 : JSs X W C rest ss) : JSs X W C (st :: rest) (s :: ss) := pss_imp (pss_cons h1 h2) fun D σ H ⟨ρ, φ, h, sm, re, o⟩ => by
  have o' : OutS X.K X.mg φ H W D ((exS C s ρ h).seq fun ρ1 h1 => exSs C ss ρ1 h1) := o
  refine ⟨ρ, φ, h, sm, re, ?_⟩
  cases e : exS C s ρ h with
  | nx ρ1 h1 =>
    rw [e] at o'
    exact fun φ' H' σ' x s r => ⟨ρ1, φ', h1, s, r, OutS.mono x o'⟩
  | rt v h1 => rw [e] at o'; exact o'
  | bk ρ1 h1 => rw [e] at o'; exact o'
  | ct ρ1 h1 => rw [e] at o'; exact o'
  | ex x ρ1 h1 => rw [e] at o'; exact o'
  | no => rw [e] at o'; exact o'
theorem jss_one (h1 : JS X W C st s) : JSs X W C [st] [s] := jss_cons h1 jss_nil
theorem js_pass : JS X W C (.Pass pos) .pass := ps_imp ps_pass fun D σ H ⟨ρ, φ, h, sm, re, o⟩ => (show OutS X.K X.mg φ H W D (.nx ρ h) from o).atN sm re
theorem js_brk : JS X W C (.Break pos) .brk := ps_imp ps_break fun D σ H ⟨ρ, φ, h, sm, re, o⟩ => (show OutS X.K X.mg φ H W D (.bk ρ h) from o) φ H σ (Ext.refl _ _) sm re
theorem js_cont : JS X W C (.Continue pos) .cont := ps_imp ps_continue fun D σ H ⟨ρ, φ, h, sm, re, o⟩ => (show OutS X.K X.mg φ H W D (.ct ρ h) from o) φ H σ (Ext.refl _ _) sm re
theorem js_never {e : E} : JS X W C st (.raise e) := ps_imp ps_never fun D σ H ⟨ρ, φ, h, sm, re, o⟩ => (show False from o)
theorem js_ret (ha : JE X W C a ea) : JS X W C (.Return (some a) pos) (.ret ea) := ps_imp (ps_ret ha) fun D σ H ⟨ρ, φ, h, sm, re, o⟩ =>
  ⟨ρ, φ, h, sm, re, (OutS.st (rel := RV X.K) re (show OutS X.K X.mg φ H W D ((evE C ea ρ h).st ρ fun v h1 => .rt v h1) from o)).imp fun x H1 ⟨φ1, v, h1, x1, s1, r1, o1⟩ => o1 φ1 H1 x (Ext.refl _ _) s1 r1⟩
theorem js_ret0 : JS X W C (.Return none pos) .ret0 := ps_imp ps_retN fun D σ H ⟨ρ, φ, h, sm, re, o⟩ => (show OutS X.K X.mg φ H W D (.rt .non h) from o) φ H .non (Ext.refl _ _) sm rfl
theorem js_expr (ha : JE X W C a ea) (hs : swapsWith a none pos.line X.env = pure false := by rfl) : JS X W C (.Expr a pos) (.ex ea) := ps_imp (ps_expr ha hs) fun D σ H ⟨ρ, φ, h, sm, re, o⟩ =>
  ⟨ρ, φ, h, sm, re, (OutS.st (rel := RV X.K) re (show OutS X.K X.mg φ H W D ((evE C ea ρ h).st ρ fun v h1 => .nx ρ h1) from o)).imp fun x H1 ⟨φ1, v, h1, x1, s1, r1, o1⟩ => o1.atN s1 (re.mono x1)⟩
theorem js_if (hc : JT X W C c ec) (ha : JSs X W C sts ss) (hb : JSs X W C rest ss2) : JS X W C (.If c sts rest pos) (.ifs ec ss ss2) := ps_imp (ps_if hc ha hb) fun D σ H ⟨ρ, φ, h, sm, re, o⟩ =>
  ⟨ρ, φ, h, sm, re, (OutS.st (rel := RI) re (show OutS X.K X.mg φ H W D ((evT C ec ρ h).st ρ fun k h1 => if k then exSs C ss ρ h1 else exSs C ss2 ρ h1) from o)).imp fun k H1 ⟨φ1, k1, h1, x1, s1, r1, o1⟩ => by
    have r1' : k1 = k := r1
    subst r1'
    cases k1 with
    | true => exact ⟨ρ, φ1, h1, s1, re.mono x1, o1⟩
    | false => exact ⟨ρ, φ1, h1, s1, re.mono x1, o1⟩⟩
/-- name = e -/
theorem asg_red {te : TE} {i : Nat} {D : Ends} {σ : St} {H : Hp} (hte : ∀ Q, tE X.K X.mg W C ea σ H Q → te σ H Q) (t : tS X.K X.mg W C (.asg (.nm i) ea) D σ H) : tAsg te (gName i) D σ H := by
  obtain ⟨ρ, φ, h, sm, re, o⟩ := t
  exact hte _ ⟨ρ, φ, h, sm, re, (OutS.st (rel := RV X.K) re (show OutS X.K X.mg φ H W D ((evE C ea ρ h).st ρ fun v h1 => .nx (ρ.set i (some v)) h1) from o)).imp fun x H1 ⟨φ1, v, h1, x1, s1, r1, o1⟩ => o1.atN s1 ((re.mono x1).set i r1)⟩
theorem js_set {i : Nat} {x : Str} {pos' : Pos} (hN : X.N.Nodup) (ha : JE X W C a ea) (hi : X.N[i]? = some x := by rfl) (hx : Loc X.env.scope x := by first | exact .inl rfl | exact .inr rfl) (hs : swapsWith a (some (.Name x pos')) pos.line X.env = pure false := by rfl) (hf : X.fn x = true ∨ X.env.scope.names.lookup x = some .local := by first | exact .inl rfl | exact .inr rfl | assumption) :
    JS X W C (.Assign [.Name x pos'] a pos) (.asg (.nm i) ea) := ps_imp (ps_set hN hi hx ha hs hf) fun D σ H t => asg_red (fun _ z => z) t
/-- name = [.. for ..] on one line -/
theorem js_setC {i : Nat} {y : Str} {py : Pos} {elt tg iter : Expr} {ifs : List Expr} {scope : Scope} {own : List (Str × Nat)} {pos spos : Pos} {ee : E} {is : List Nat} {one : Bool} {k : ITK} {its : List E} {cond : Option E} (hc : X.calm = true) (hN : X.N.Nodup) (hi : JI X W C tg iter k its) (ok : BlkOk X.N X.env.scope scope own)
    (hg : ∀ (s : Shared) (H : Hp) (C : Addr) (cl : List (Str × Addr)) (fp : List Addr), PG (X.blk s H scope (compEnvC scope cl C X.env) fp) tg (gT X.K is one)) (ht : ∀ (s : Shared) (H : Hp) (C' : Addr) (cl : List (Str × Addr)) (fp : List Addr), PTs (X.blk s H scope (compEnvC scope cl C' X.env) fp) ifs (tCond X.K X.mg C cond))
    (he : ∀ (s : Shared) (H : Hp) (C' : Addr) (cl : List (Str × Addr)) (fp : List Addr), JE (X.blk s H scope (compEnvC scope cl C' X.env) fp) W0 C elt ee) (hy : X.N[i]? = some y := by rfl) (hyl : X.env.scope.names.lookup y = some .local := by rfl)
    (hsw : swapsWith (.ListComp elt [⟨tg, iter, ifs, 0⟩] scope pos) (some (.Name y py)) spos.line X.env = pure true := by exact sw_true rfl rfl rfl (by decide +kernel)) (his : ∀ i ∈ is, i ∈ own.map (·.2) := by decide) (hs : ∀ x, foldedSetIterable iter X.env x = pure x := by intro _; rfl) :
    JS X W C (.Assign [.Name y py] (.ListComp elt [⟨tg, iter, ifs, 0⟩] scope pos) spos) (.asg (.nm i) (.comp ee is one k its cond (own.map (·.2)))) :=
  ps_imp (ps_setLc hc hN hy hyl hsw hi ok hg ht he hs) fun D σ H t => asg_red (fun _ z => comp_red his z) t
/-- (a, b, ..) = e -/
theorem js_tup {tg : Expr} {is : List Nat} (ha : JE X W C a ea) (hg : PG X tg (gTup X.K is.length (gNs is))) (hs : swapsWithSole [tg] a pos.line X.env = pure false := by rfl) (hw : swappedStores [tg] a X.env = pure none := by rfl)
    (h1 : (assignEach [tg] X.env).map (·.2) = [assign tg X.env] := by rfl) : JS X W C (.Assign [tg] a pos) (.asg (.tup is) ea) := ps_imp (ps_asg ha hg hs hw h1) fun D σ H ⟨ρ, φ, h, sm, re, o⟩ =>
  ⟨ρ, φ, h, sm, re, (OutS.st (rel := RV X.K) re (show OutS X.K X.mg φ H W D ((evE C ea ρ h).st ρ fun v h1 => stTg C (.tup is) v ρ h1) from o)).imp fun x H1 ⟨φ1, v, h1, x1, s1, r1, o1⟩ => by
    cases v with
    | tup l =>
      simp only [stTg] at o1
      cases e : setAll ρ is l with
      | none => simp only [e] at o1; exact (show False from o1).elim
      | some ρ' =>
        simp only [e] at o1
        obtain ⟨ad, vs, hx, hq, r'⟩ := r1
        obtain ⟨g1, g2⟩ := setAll_ok (re.mono x1) r' e
        exact ⟨ad, vs, hx, hq.sq, g2.symm, gNs_ok g2 (OutS.atN o1 s1 g1)⟩
    | _ => exact (show False from o1).elim⟩
/-- (a, b, ..) = a list -/
theorem js_unl {tg : Expr} {is : List Nat} (ha : JE X W C a ea) (hg : PG X tg (gUnl X.K is.length (gNs is))) (hs : swapsWithSole [tg] a pos.line X.env = pure false := by rfl) (hw : swappedStores [tg] a X.env = pure none := by rfl)
    (h1 : (assignEach [tg] X.env).map (·.2) = [assign tg X.env] := by rfl) : JS X W C (.Assign [tg] a pos) (.asg (.unl is) ea) := ps_imp (ps_asg ha hg hs hw h1) fun D σ H ⟨ρ, φ, h, sm, re, o⟩ =>
  ⟨ρ, φ, h, sm, re, (OutS.st (rel := RV X.K) re (show OutS X.K X.mg φ H W D ((evE C ea ρ h).st ρ fun v h1 => stTg C (.unl is) v ρ h1) from o)).imp fun x H1 ⟨φ1, v, h1, x1, s1, r1, o1⟩ => by
    cases v with
    | ref n =>
      obtain ⟨ad, hx, hφ⟩ := r1
      cases hn : h1[n]? with
      | none => simp only [stTg, hn] at o1; exact (show False from o1).elim
      | some po =>
        cases po with
        | lst l =>
          obtain ⟨a2, ho, q1, q2, vs, q3, r'⟩ := s1.ob n _ hn
          rw [hφ] at q1
          cases q1
          subst q3
          simp only [stTg, hn] at o1
          cases e : setAll ρ is l with
          | none => simp only [e] at o1; exact (show False from o1).elim
          | some ρ' =>
            simp only [e] at o1
            obtain ⟨g1, g2⟩ := setAll_ok (re.mono x1) r' e
            exact ⟨ad, vs, hx, .inl (.inl q2), g2.symm, gNs_ok g2 (OutS.atN o1 s1 g1)⟩
    | _ => exact (show False from o1).elim⟩
/-- a, b = x, y: two plain names -/
theorem js_par {i j : Nat} {x y : Str} {px py pt : Pos} {kt k2 : Nat} {pt2 : Pos} (hc : X.calm = true) (hN : X.N.Nodup) (ha : JA X W C [a, b] [ea, eb]) (hij : i ≠ j := by decide) (hi : X.N[i]? = some x := by rfl) (hj : X.N[j]? = some y := by rfl)
    (hx : X.env.scope.names.lookup x = some .local := by rfl) (hy : X.env.scope.names.lookup y = some .local := by rfl)
    (hw : swappedStores [.Tuple [.Name x px, .Name y py] kt pt] (.Tuple [a, b] k2 pt2) X.env = pure (some [x, y]) := by rfl)
    (hs : swapsWithSole [.Tuple [.Name x px, .Name y py] kt pt] (.Tuple [a, b] k2 pt2) pos.line X.env = pure false := by rfl) :
    JS X W C (.Assign [.Tuple [.Name x px, .Name y py] kt pt] (.Tuple [a, b] k2 pt2) pos) (.asg (.tup [i, j]) (.tup [ea, eb])) := ps_imp (ps_par hc hN hi hj hij hx hy ha hw hs) fun D σ H ⟨ρ, φ, h, sm, re, o⟩ => by
  have o' : OutS X.K X.mg φ H W D ((evGs C [ea, eb] ρ h).st ρ fun l h1 => (tupO l h1).st ρ fun v h2 => stTg C (.tup [i, j]) v ρ h2) := by
    have e : exS C (.asg (.tup [i, j]) (.tup [ea, eb])) ρ h = (evGs C [ea, eb] ρ h).st ρ fun l h1 => (tupO l h1).st ρ fun v h2 => stTg C (.tup [i, j]) v ρ h2 := by
      show (((evGs C [ea, eb] ρ h).bind fun l h1 => tupO l h1).st ρ fun v h1 => stTg C (.tup [i, j]) v ρ h1) = _
      cases evGs C [ea, eb] ρ h <;> rfl
    rw [← e]
    exact o
  refine ⟨ρ, φ, h, sm, re, (OutS.st (rel := RVs X.K) re o').imp fun vs H1 ⟨φ1, l, h1, x1, s1, r1, o1⟩ => ?_⟩
  unfold tupO at o1
  split at o1
  · have o2 : OutS X.K X.mg φ1 H1 W D (match setAll ρ [i, j] l with | some ρ' => .nx ρ' h1 | none => .no) := o1
    cases e : setAll ρ [i, j] l with
    | none => rw [e] at o2; exact (show False from o2).elim
    | some ρ' =>
      rw [e] at o2
      obtain ⟨g1, g2⟩ := setAll_ok (re.mono x1) r1 e
      match vs, g2, g1 with
      | [v, w], _, g1 => exact ⟨v, w, rfl, OutS.atN o2 s1 g1⟩
  · exact (show False from o1).elim
/-- o[i] = e -/
theorem js_sub {o i : Expr} {eo ei : E} {tpos : Pos} (ha : JE X W C a ea) (ho : JE X W C o eo) (hi : JE X W C i ei)
    (hg : ∀ v, assign (.Subscript o i tpos) X.env v = (do
      let ov ← holding [v] (eval o X.env)
      let iv ← holding [v, ov] (eval i X.env)
      standAt tpos
      holding [v, ov, iv] (setItem ov iv v)
      release [v, ov, iv] []) := by intro _; rfl)
    (hs : swapsWithSole [.Subscript o i tpos] a pos.line X.env = pure false := by rfl) (hw : swappedStores [.Subscript o i tpos] a X.env = pure none := by rfl)
    (h1 : (assignEach [.Subscript o i tpos] X.env).map (·.2) = [assign (.Subscript o i tpos) X.env] := by rfl) : JS X W C (.Assign [.Subscript o i tpos] a pos) (.asg (.sub eo ei) ea) :=
  ps_imp (ps_asg ha (pg_sub ho hi set_ok hg) hs hw h1) fun D σ H ⟨ρ, φ, h, sm, re, oo⟩ =>
    ⟨ρ, φ, h, sm, re, (OutS.st (rel := RV X.K) re (show OutS X.K X.mg φ H W D ((evE C ea ρ h).st ρ fun v h1 => (evE C eo ρ h1).st ρ fun x h2 => (evE C ei ρ h2).st ρ fun y h3 => match setop x y v h3 with | some h4 => .nx ρ h4 | none => .no) from oo)).imp fun x H1 ⟨φ1, v, h1, x1, s1, r1, o1⟩ =>
      ⟨ρ, φ1, h1, s1, re.mono x1, (OutS.st (rel := RV X.K) (re.mono x1) o1).imp fun y H2 ⟨φ2, w, h2, x2, s2, r2, o2⟩ =>
        ⟨ρ, φ2, h2, s2, (re.mono x1).mono x2, (OutS.st (rel := RV X.K) ((re.mono x1).mono x2) o2).imp fun z H3 ⟨φ3, u, h3, x3, s3, r3, o3⟩ => by
          cases e : setop w u v h3 with
          | none => rw [e] at o3; exact (show False from o3).elim
          | some h4 =>
            rw [e] at o3
            exact ⟨φ3, h3, w, u, v, h4, s3, r2.mono x3, r3, (r1.mono x2).mono x3, e, fun H4 x4 s4 => (show OutS X.K X.mg φ3 H3 W D (.nx ρ h4) from o3) φ3 H4 σ x4 s4 ((((re.mono x1).mono x2).mono x3).mono x4)⟩⟩⟩⟩
theorem iop_ok {W' : XK} (op : Operator) : OpR X (inplaceOp op) (rOp X.K X.mg W' (iopF op)) := by
  intro pins s σ H x y v u Q I rx ry hh
  obtain ⟨φ, h, a, b, sm, ra, rb, o⟩ := hh
  unfold iopF at o
  split at o
  · exact iop_add pins s σ H x y v u Q I rx ry ⟨_, _, ra, rb, o.at sm rfl⟩
  · exact iop_sub pins s σ H x y v u Q I rx ry ⟨_, _, ra, rb, o.at sm rfl⟩
  · split at o
    · rename_i hm
      exact iop_add_str pins s σ H x y v u Q I rx ry ⟨_, _, ra, rb, line_ok hm, o.at sm rfl⟩
    · exact o.elim
  · exact o.elim
theorem js_aug {i : Nat} {x : Str} {op : Operator} {pos' : Pos} (hN : X.N.Nodup) (ha : JE X W C a ea) (hi : X.N[i]? = some x := by rfl) (hx : Loc X.env.scope x := by first | exact .inl rfl | exact .inr rfl) (hf : X.fn x = true ∨ X.env.scope.names.lookup x = some .local := by first | exact .inl rfl | exact .inr rfl | assumption) :
    JS X W C (.AugAssign (.Name x pos') op a pos) (.aug i op ea) := ps_imp (ps_aug (ti := fun x y H Q => ∃ W', rOp X.K X.mg W' (iopF op) x y H Q) hN hi hx ha (opr_any fun W' => iop_ok (W' := W') op) hf) fun D σ H ⟨ρ, φ, h, sm, re, o⟩ => by
  have o' : OutS X.K X.mg φ H W D (match ρ.get i with
    | some x => (evE C ea ρ h).st ρ fun y h1 => (iopF op x y h1).st ρ fun z h2 => .nx (ρ.set i (some z)) h2
    | none => .no) := o
  cases e : ρ.get i with
  | none => rw [e] at o'; exact (show False from o').elim
  | some p =>
    rw [e] at o'
    have e' : ρ[i]? = some (some p) := by
      unfold Env.get at e
      split at e
      · rename_i v e2
        rw [e2, Option.some.inj e]
      · cases e
    obtain ⟨v, e3, r⟩ := re.get e'
    exact ⟨v, e3, ρ, φ, h, sm, re, (OutS.st (rel := RV X.K) re o').imp fun y H1 ⟨φ1, w, h1, x1, s1, r1, o1⟩ =>
      ⟨_, φ1, h1, p, w, s1, r.mono x1, r1, (OutS.st (rel := RV X.K) (re.mono x1) o1).imp fun z H2 ⟨φ2, u, h2, x2, s2, r2, o2⟩ => OutS.atN o2 s2 (((re.mono x1).mono x2).set i r2)⟩⟩
theorem pget_ok : PGet X (fun x y H Q => ∃ W', rOp X.K X.mg W' getL x y H Q) := by
  intro pins s σ H o i ov iv Q I ro ri hh
  obtain ⟨W', φ, h, a, b, sm, ra, rb, oo⟩ := hh
  unfold getL at oo
  split at oo
  · rename_i n k
    split at oo
    · rename_i hk
      split at oo
      · rename_i l e1
        obtain ⟨p, e2, q⟩ := oo.some
        obtain ⟨ad, vs, f1, g1, r1⟩ := sm.lst e1
        obtain ⟨b1, hx, q1⟩ := ra
        rw [f1] at q1
        cases q1
        obtain ⟨w, e3, rw'⟩ := r1.get e2
        subst hx
        cases ro
        rw [show i = .int k from rb] at ri
        obtain ⟨t, rfl⟩ := ri
        obtain ⟨its, rr, pl, hz⟩ := I.list (SqL.of g1)
        obtain ⟨u, eu, ru⟩ := rr.get e3
        have hl := rr.length
        have hlt := (List.getElem?_eq_some_iff.mp e3).1
        have hs := sizeLine_eq
        exact wpAny_getItem_list pl.isList hk (by omega) (by simpa using eu) ⟨w, H, I, ru, q.at sm rw'⟩
      · exact oo.elim
    · exact oo.elim
  · exact oo.elim
theorem js_augs {o i : Expr} {eo ei : E} {op : Operator} {tpos : Pos} (ho : JE X W C o eo) (hi : JE X W C i ei) (ha : JE X W C a ea)
    (hg : ∀ ov iv new, augStore i ov iv new = (do holding [new, ov, iv] (setItem ov iv new); release [new, ov, iv] []; pure .next) := by intros; rfl) : JS X W C (.AugAssign (.Subscript o i tpos) op a pos) (.augs eo ei op ea) :=
  ps_imp (ps_augS (tip := fun x y H Q => ∃ W', rOp X.K X.mg W' (iopF op) x y H Q) ho hi pget_ok ha (opr_any fun W' => iop_ok (W' := W') op) set_ok hg) fun D σ H ⟨ρ, φ, h, sm, re, oo⟩ =>
    ⟨ρ, φ, h, sm, re, (OutS.st (rel := RV X.K) re (show OutS X.K X.mg φ H W D ((evE C eo ρ h).st ρ fun ov h1 => (evE C ei ρ h1).st ρ fun iv h2 => (getL ov iv h2).st ρ fun x h3 => (evE C ea ρ h3).st ρ fun y h4 => (iopF op x y h4).st ρ fun z h5 => match setop ov iv z h5 with | some h6 => .nx ρ h6 | none => .no) from oo)).imp fun x H1 ⟨φ1, ov, h1, x1, s1, r1, o1⟩ =>
      ⟨ρ, φ1, h1, s1, re.mono x1, (OutS.st (rel := RV X.K) (re.mono x1) o1).imp fun y H2 ⟨φ2, iv, h2, x2, s2, r2, o2⟩ =>
        ⟨_, φ2, h2, ov, iv, s2, r1.mono x2, r2, (OutS.st (rel := RV X.K) ((re.mono x1).mono x2) o2).imp fun g H3 ⟨φ3, gv, h3, x3, s3, r3, o3⟩ =>
          ⟨ρ, φ3, h3, s3, ((re.mono x1).mono x2).mono x3, (OutS.st (rel := RV X.K) (((re.mono x1).mono x2).mono x3) o3).imp fun y4 H4 ⟨φ4, yv, h4, x4, s4, r4, o4⟩ =>
            ⟨_, φ4, h4, gv, yv, s4, r3.mono x4, r4, (OutS.st (rel := RV X.K) ((((re.mono x1).mono x2).mono x3).mono x4) o4).imp fun z H5 ⟨φ5, zv, h5, x5, s5, r5, o5⟩ => by
              have re5 := ((((re.mono x1).mono x2).mono x3).mono x4).mono x5
              cases e : setop ov iv zv h5 with
              | none => rw [e] at o5; exact (show False from o5).elim
              | some h6 =>
                rw [e] at o5
                exact ⟨φ5, h5, ov, iv, zv, h6, s5, (((r1.mono x2).mono x3).mono x4).mono x5, ((r2.mono x3).mono x4).mono x5, r5, e, fun H6 x6 s6 => (show OutS X.K X.mg φ5 H5 W D (.nx ρ h6) from o5) φ5 H6 σ x6 s6 (re5.mono x6)⟩⟩⟩⟩⟩⟩
end
end Sb

set_option Elab.async false
set_option linter.all false
set_option maxRecDepth 100000
set_option maxHeartbeats 4000000
/-! Sb: loops, the context of a body, defs, the head's facts, a law's end. -/
namespace Sb
open PySem PySem.Spec L2

section
variable {K : PySem.W.Frag} {mg : Str → Option Value} {φ : List Addr} {H : Hp} {W : WX} {D D' : Ends}
/-- a turn's end -/
theorem OutS.turn {m : RS} {f : Env → PH → RS} (h : OutS K mg φ H W D (m.turn f)) (hN : ∀ φ' H' σ' ρ' h', Ext φ φ' H H' → Sim K φ' h' H' → RE K φ' H' ρ' σ' → OutS K mg φ' H' W D (f ρ' h') → D'.nx σ' H') (hC : D'.ct = D'.nx) (hB : D'.bk = D.nx) (hR : D'.rt = D.rt) : OutS K mg φ H W D' m := by
  cases m with
  | nx ρ1 h1 => exact fun φ' H' σ' x s r => hN φ' H' σ' ρ1 h1 x s r (OutS.mono x h)
  | ct ρ1 h1 =>
    intro φ' H' σ' x s r
    rw [hC]
    exact hN φ' H' σ' ρ1 h1 x s r (OutS.mono x h)
  | bk ρ1 h1 =>
    intro φ' H' σ' x s r
    rw [hB]
    exact h φ' H' σ' x s r
  | rt v h1 =>
    intro φ' H' y x s r
    rw [hR]
    exact h φ' H' y x s r
  | ex y ρ1 h1 => exact h
  | no => exact h
end
section
variable {X : Cx} {W : WX} {C : Calls} {a b c tg iter : Expr} {st : Stmt} {sts rest : List Stmt} {pos : Pos} {ea eb ec : E} {s : S} {ss ss2 : List S}
theorem js_while0 (hp : PassesOwn (model X.prog X.w) X.A X.env X.xe) (hc : JT X W C c ec) (hb : JSs X W C sts ss) : JS X W C (.While c sts [] pos) (.whl ec ss) := ps_imp (ps_while hp hc hb) fun D σ H ⟨ρ, φ, h, sm, re, o⟩ => by
  have o' : OutS X.K X.mg φ H W D (whileF (fun ρ h => evT C ec ρ h) (fun ρ h => exSs C ss ρ h) ρ h) := o
  have ne : whileF (fun ρ h => evT C ec ρ h) (fun ρ h => exSs C ss ρ h) ρ h ≠ .no := fun z => by
    rw [z] at o'
    exact o'
  obtain ⟨n, _, e⟩ := whileF_some ne
  rw [e] at o'
  refine ⟨fun m σ H => ∃ ρ φ h, Sim X.K φ h H ∧ RE X.K φ H ρ σ ∧ OutS X.K X.mg φ H W D (whileN (fun ρ h => evT C ec ρ h) (fun ρ h => exSs C ss ρ h) m ρ h), ⟨n, ρ, φ, h, sm, re, o'⟩, ?_⟩
  rintro m σ H ⟨ρ, φ, h, sm, re, o⟩
  cases m with
  | zero => exact (show False from o).elim
  | succ m =>
    refine ⟨ρ, φ, h, sm, re, (OutS.st (rel := RI) re (show OutS X.K X.mg φ H W D ((evT C ec ρ h).st ρ fun k h1 => if k then (exSs C ss ρ h1).turn (whileN (fun ρ h => evT C ec ρ h) (fun ρ h => exSs C ss ρ h) m) else .nx ρ h1) from o)).imp fun k H1 ⟨φ1, k1, h1, x1, s1, r1, o1⟩ => ?_⟩
    have r1' : k1 = k := r1
    subst r1'
    cases k1 with
    | false =>
      simp only [Bool.false_eq_true, if_false] at o1 ⊢
      exact OutS.atN o1 s1 (re.mono x1)
    | true =>
      simp only [if_true] at o1 ⊢
      refine ⟨fun σ H => ∃ ρ φ h, Sim X.K φ h H ∧ RE X.K φ H ρ σ ∧ OutS X.K X.mg φ H W D (whileN (fun ρ h => evT C ec ρ h) (fun ρ h => exSs C ss ρ h) m ρ h), fun σ' H' z => ⟨m, Nat.lt_succ_self m, z⟩, ρ, φ1, h1, s1, re.mono x1, ?_⟩
      exact OutS.turn o1 (fun φ' H' σ' ρ' h' x s r o => ⟨ρ', φ', h', s, r, o⟩) rfl rfl rfl
theorem js_for0 {is : List Nat} {one : Bool} {k : ITK} {its : List E} (hp : PassesOwn (model X.prog X.w) X.A X.env X.xe) (hc : X.calm = true) (hi : JI X W C tg iter k its) (hg : PG X tg (gT X.K is one)) (hb : JSs X W C sts ss)
    (hs : ∀ x, foldedSetIterable iter X.env x = pure x := by intro _; rfl) : JS X W C (.For tg iter sts [] pos) (.fr is one k its ss) := ps_imp (ps_for hp hc hi hg hb hs) fun D σ H ⟨ρ, φ, h, sm, re, o⟩ => by
  have o' : OutS X.K X.mg φ H W D ((evI C k its ρ h).st ρ fun w h1 => forLoop w.2 (fun ρ x => setTg ρ is one x) (fun ρ h => exSs C ss ρ h) w.1 ρ h1) := by
    have e : exS C (.fr is one k its ss) ρ h = (evI C k its ρ h).st ρ fun w h1 => forLoop w.2 (fun ρ x => setTg ρ is one x) (fun ρ h => exSs C ss ρ h) w.1 ρ h1 := by
      unfold evI
      show ((evGs C its ρ h).st ρ _) = _
      cases evGs C its ρ h with
      | ok l h1 =>
        rw [R.st_ok, R.bind_ok]
        cases walkF k l h1 with
        | none => rfl
        | some w => rfl
      | ex x h1 => rfl
      | no => rfl
    rw [← e]
    exact o
  refine ⟨ρ, φ, h, sm, re, (OutS.st (rel := relW X.K) re o').imp fun J H1 ⟨φ1, w, h1, x1, s1, wk, o1⟩ => ?_⟩
  obtain ⟨items, kp⟩ := w
  have wk : WalkOk X.K J φ1 H1 items kp := wk
  refine ⟨fun i m σ2 H2 => ∃ ρ2 φ2 h2, m = (items.drop i).length ∧ Ext φ1 φ2 H1 H2 ∧ Sim X.K φ2 h2 H2 ∧ RE X.K φ2 H2 ρ2 σ2 ∧ OutS X.K X.mg φ2 H2 W D (forLoop kp (fun ρ x => setTg ρ is one x) (fun ρ h => exSs C ss ρ h) (items.drop i) ρ2 h2),
    ⟨items.length, ρ, φ1, h1, rfl, Ext.refl _ _, s1, re.mono x1, o1⟩, ?_⟩
  rintro i m σ2 H2 ⟨ρ2, φ2, h2, hm, x2, s2, re2, o2⟩
  cases e : items.drop i with
  | nil =>
    rw [e] at o2
    unfold forLoop at o2
    split at o2
    · rename_i hs
      exact .inl ⟨wk.stop i φ2 h2 H2 x2 s2 hs (List.drop_eq_nil_iff.mp e), OutS.atN o2 s2 re2⟩
    · exact (show False from o2).elim
  | cons p rest =>
    have ei : items[i]? = some p := by
      have := congrArg (·[0]?) e
      simpa using this
    have er : items.drop (i + 1) = rest := by
      rw [← List.drop_drop, e]
      rfl
    rw [e] at o2
    unfold forLoop at o2
    split at o2
    · rename_i hs
      obtain ⟨hgo, hy⟩ := wk.go i φ2 h2 H2 p x2 s2 hs ei
      refine .inr ⟨hgo, fun σ3 H3 => ∃ ρ3 φ3 h3, Ext φ1 φ3 H1 H3 ∧ Sim X.K φ3 h3 H3 ∧ RE X.K φ3 H3 ρ3 σ3 ∧ OutS X.K X.mg φ3 H3 W D (forLoop kp (fun ρ x => setTg ρ is one x) (fun ρ h => exSs C ss ρ h) rest ρ3 h3), fun σ3 H3 z => ?_, fun v H3 y => ?_⟩
      · obtain ⟨ρ3, φ3, h3, z1, z2, z3, z4⟩ := z
        refine ⟨rest.length, by rw [hm, e, List.length_cons]; omega, ρ3, φ3, h3, by rw [er], z1, z2, z3, ?_⟩
        rw [er]
        exact z4
      · obtain ⟨ex, sx, rx⟩ := hy v H3 y
        cases eb : setTg ρ2 is one p with
        | none => simp only [eb] at o2; exact (show False from o2).elim
        | some ρ3 =>
          simp only [eb] at o2
          refine gT_ok (re2.mono ex) rx eb fun σ3 re3 _ => ⟨ρ3, φ2, h2, sx, re3, ?_⟩
          exact OutS.turn (OutS.mono ex o2) (fun φ' H' σ' ρ' h' x s r o => ⟨ρ', φ', h', (x2.trans ex).trans x, s, r, o⟩) rfl rfl rfl
    · exact (show False from o2).elim
end

/-! ### the context of a body -/
structure Cq (X : Cx) (W : WX) (k : Nat) : Prop where
  calm : X.calm = true
  nd : X.N.Nodup
  hr : Room k X.A
  tk : Takes X W
  po : PassesOwn (model X.prog X.w) X.A X.env X.xe
theorem Cq.blk {X : Cx} {W : WX} {k : Nat} (c : Cq X W k) (s : Shared) (H : Hp) (scope : Scope) (cenv : PySem.Env) (fp : List Addr) : Cq (X.blk s H scope cenv fp) W0 k := ⟨c.calm, c.nd, c.hr, takes0, PassesOwn.never⟩
/-- a loop's or comprehension's target: one name, names -/
theorem tg_one {X : Cx} {i : Nat} {x : Str} {pos : Pos} (hN : X.N.Nodup) (hi : X.N[i]? = some x := by rfl) (hx : Loc X.env.scope x := by first | exact .inl rfl | exact .inr rfl) (hf : X.fn x = true ∨ X.env.scope.names.lookup x = some .local := by first | exact .inl rfl | exact .inr rfl | assumption) : PG X (.Name x pos) (gT X.K [i] true) := pg_name hN hi hx hf
theorem tgs_nil {X : Cx} : PGs X [] (gNs []) := pgs_nil
theorem tgs_cons {X : Cx} {i : Nat} {is : List Nat} {x : Str} {pos : Pos} {es : List Expr} (hN : X.N.Nodup) (h2 : PGs X es (gNs is)) (hi : X.N[i]? = some x := by rfl) (hx : Loc X.env.scope x := by first | exact .inl rfl | exact .inr rfl) (hf : X.fn x = true ∨ X.env.scope.names.lookup x = some .local := by first | exact .inl rfl | exact .inr rfl | assumption)
    (hs : (assignEach (.Name x pos :: es) X.env).map (·.2) = assign (.Name x pos) X.env :: (assignEach es X.env).map (·.2) := by rfl) : PGs X (.Name x pos :: es) (gNs (i :: is)) := pgs_cons (pg_name hN hi hx hf) h2 hs
theorem tg_tup {X : Cx} {es : List Expr} {kk : Nat} {pos : Pos} {is : List Nat} (hc : X.calm = true) (h : PGs X es (gNs is)) (hn : (assignEach es X.env).length = is.length := by rfl) (hst : (assignEach es X.env).findIdx? (·.1) = none := by rfl) : PG X (.Tuple es kk pos) (gT X.K is false) := pg_tup hc h hn hst
theorem tg_tup' {X : Cx} {es : List Expr} {kk : Nat} {pos : Pos} {is : List Nat} (hc : X.calm = true) (h : PGs X es (gNs is)) (hn : (assignEach es X.env).length = is.length := by rfl) (hst : (assignEach es X.env).findIdx? (·.1) = none := by rfl) : PG X (.Tuple es kk pos) (gTup X.K is.length (gNs is)) := pg_tup hc h hn hst
theorem tg_unl {X : Cx} {es : List Expr} {kk : Nat} {pos : Pos} {is : List Nat} (hc : X.calm = true) (h : PGs X es (gNs is)) (hn : (assignEach es X.env).length = is.length := by rfl) (hst : (assignEach es X.env).findIdx? (·.1) = none := by rfl) : PG X (.Tuple es kk pos) (gUnl X.K is.length (gNs is)) := pg_unl hc h hn hst
/-- a comprehension's test -/
theorem cd_none {X : Cx} {C : Calls} : PTs X [] (tCond X.K X.mg C none) := pts_nil
theorem cd_some {X : Cx} {C : Calls} {a : Expr} {e : E} (h : JT X W0 C a e) : PTs X [a] (tCond X.K X.mg C (some e)) := pts_one h

/-! ### defs -/
/-- all arguments are given -/
theorem binds_full {K : PySem.W.Frag} {x qual : Str} {params : Arguments} {body : List Stmt} {scope : Scope} {dvs : List V} {kws : List (Str × V)} {f : Addr} {fd : FuncData} {ps : List Str} (F : FunD K x qual params body scope dvs kws f fd) (hd : dvs ≠ [])
    (h : ∀ (T : Addr) (kV doc pm : Value) (an : Option Addr) (cdv ct : Value) (us its : List Value), us.length = ps.length → its.length = dvs.length →
      ∃ k, bindArgs (PySem.W.fnOf x qual params body scope (.ref T) kV doc pm an cdv ct) ⟨us, []⟩ = seqItems? (.ref T) >>= k ∧ k (some its.toArray) = pure (ps.zip us)) : Binds K fd ps [] := by
  obtain ⟨ds, v, b⟩ := F.binds1 (ps := ps) ps.length dvs.length hd (by simp) fun T kV doc pm an cdv ct us its h1 h2 => by
    obtain ⟨k, e1, e2⟩ := h T kV doc pm an cdv ct us its h1 h2
    exact ⟨k, e1, by rw [e2, List.drop_of_length_le (by omega), List.append_nil]⟩
  rw [List.drop_length] at v
  cases v
  exact b
theorem start_re {K : PySem.W.Frag} {φ : List Addr} {H : Hp} : ∀ {ps : List PV} {vs : List V} (n : Nat), RVs K φ H ps vs → RE K φ H (ps.map some ++ List.replicate n none) (vs.map some ++ List.replicate n none)
  | [], vs, n, r => by
    have : vs = [] := r
    subst this
    show RE K φ H (List.replicate n none) (List.replicate n none)
    induction n with
    | zero => exact rfl
    | succ n ih => exact ⟨none, List.replicate n none, rfl, fun x e => (by cases e), ih⟩
  | p :: ps, vs, n, r => by
    obtain ⟨v, t, e, q, s⟩ := r
    subst e
    exact ⟨some v, _, rfl, fun x e => ⟨v, rfl, by cases e; exact q⟩, start_re n s⟩
theorem fn_ok {P : Program} {w : World} {K : PySem.W.Frag} {mg : Str → Option Value} {base : Heap} {x qual : Str} {params : Arguments} {body : List Stmt} {scope : Scope} {dvs : List V} {kws : List (Str × V)} {f : Addr} {fd : FuncData} {N ps : List Str} {k : Nat} {tbl : Nat → Fn} {fi : Nat}
    (F : FunD K x qual params body scope dvs kws f fd) (S : FnScope N ps scope) (hn : N.length = (tbl fi).ns) (hp : ps.length = (tbl fi).np)
    (hb : ∀ (cdv : Value) (A : Around) (outer : List PySem.Env) (s : Shared) (H : Hp) (E : XK), Cq (cxOf (L2.CX P w) P w K mg base N qual scope f cdv A outer s H E) (fun c d _ H => E c d H) k → JSs (cxOf (L2.CX P w) P w K mg base N qual scope f cdv A outer s H E) (fun c d _ H => E c d H) (call tbl k) body (tbl fi).body) :
    FnOk P w K mg base (L2.CX P w) (k + 1) f fd ps (spF K mg (call tbl (k + 1)) fi ps.length) := by
  refine F.ok S (fun vs H Q E h => h.1) fun cdv A outer s H vs Q E hr h => ?_
  obtain ⟨hl, φ, hh, pl, sm, r, o⟩ := h
  refine ⟨_, hb cdv A outer s H E ⟨rfl, S.nd, hr, takes_of rfl rfl rfl rfl, PassesOwn.leaving⟩, ?_⟩
  have o' : Out K mg (RV K) φ H E Q (runFn (call tbl k) (tbl fi) pl hh) := o
  unfold runFn at o'
  split at o'
  · rename_i hlen
    have re := start_re (N.length - vs.length) r
    have e1 : startP (tbl fi).ns pl = pl.map some ++ List.replicate (N.length - vs.length) none := by
      unfold startP
      rw [hn, r.length]
    refine ⟨startP (tbl fi).ns pl, φ, hh, sm, by rw [e1]; exact re, ?_⟩
    generalize exSs (call tbl k) (tbl fi).body (startP (tbl fi).ns pl) hh = m at o'
    cases m with
    | nx ρ h1 => exact fun φ' H' σ' x s r => o' φ' H' .non x s rfl
    | rt v h1 => exact fun φ' H' y x s r => o' φ' H' y x s r
    | ex y ρ h1 => exact fun φ' H' σ' c d x s _ r => o' φ' H' c d x s r
    | bk ρ h1 => exact (show False from o').elim
    | ct ρ h1 => exact (show False from o').elim
    | no => exact (show False from o').elim
  · exact (show False from o').elim
theorem fn_zero {P : Program} {w : World} {K : PySem.W.Frag} {mg : Str → Option Value} {base : Heap} {f : Addr} {fd : FuncData} {ps : List Str} {tbl : Nat → Fn} {fi : Nat} : FnOk P w K mg base (L2.CX P w) 0 f fd ps (spF K mg (call tbl 0) fi ps.length) :=
  ⟨fun vs H Q E h => h.1, fun A outer s H args us vs Q E hr he hb hv h => by
    obtain ⟨_, φ, hh, pl, sm, r, o⟩ := h
    exact (show False from o).elim⟩

/-! ### constants of the module -/
mutual
def pvB (K : PySem.W.Frag) : PV → Value → Bool
  | .non, .none => true
  | .bl b, .bool c => b == c
  | .int i, .int j _ => decide (i = j)
  | .str x, .str y _ => decide (x = y)
  | .tup l, .ref a => (match K.lookup a with
    | some ⟨.type c, _, .seq its _, _⟩ => decide (c = "tuple") && (decide (its.size ≤ sizeLine) && pvsB K l its.toList)
    | _ => false)
  | .cl l, .ref a => (match K.lookup a with
    | some ⟨.type c, none, .seq its _, _⟩ => decide (c = "list") && (decide (its.size ≤ sizeLine) && pvsB K l its.toList)
    | _ => false)
  | _, _ => false
def pvsB (K : PySem.W.Frag) : List PV → List Value → Bool
  | [], [] => true
  | p :: ps, u :: us => pvB K p u && pvsB K ps us
  | _, _ => false
end
mutual
theorem pvB_ok {K : PySem.W.Frag} : ∀ {p : PV} {u : Value}, pvB K p u = true → ∃ v, RelV v u ∧ ∀ φ H, RV K φ H p v
  | .non, u, e => by
    cases u with
    | none => exact ⟨.non, rfl, fun _ _ => rfl⟩
    | _ => cases e
  | .bl b, u, e => by
    cases u with
    | bool c =>
      have : b = c := eq_of_beq (show (b == c) = true from e)
      subst this
      exact ⟨.bl b, rfl, fun _ _ => rfl⟩
    | _ => cases e
  | .int b, u, e => by
    cases u with
    | int c t =>
      have : b = c := of_decide_eq_true e
      subst this
      exact ⟨.int b, ⟨t, rfl⟩, fun _ _ => rfl⟩
    | _ => cases e
  | .str b, u, e => by
    cases u with
    | str c t =>
      have : b = c := of_decide_eq_true e
      subst this
      exact ⟨.str b, ⟨t, rfl⟩, fun _ _ => rfl⟩
    | _ => cases e
  | .tup l, u, e => by
    cases u with
    | ref a =>
      simp only [pvB] at e
      split at e
      · rename_i c od its n sl q
        obtain ⟨h1, h2⟩ := Bool.and_eq_true_iff.mp e
        obtain ⟨h3, h4⟩ := Bool.and_eq_true_iff.mp h2
        obtain ⟨vs, rv, r⟩ := pvsB_ok h4
        refine ⟨.ref a, rfl, fun φ H => ⟨a, vs, rfl, .inr ⟨_, its, n, q, ?_, rfl, of_decide_eq_true h3, rv⟩, r φ H⟩⟩
        exact congrArg Value.type (of_decide_eq_true h1)
      · cases e
    | _ => cases e
  | .cl l, u, e => by
    cases u with
    | ref a =>
      simp only [pvB] at e
      split at e
      · rename_i c its n sl q
        obtain ⟨h1, h2⟩ := Bool.and_eq_true_iff.mp e
        obtain ⟨h3, h4⟩ := Bool.and_eq_true_iff.mp h2
        obtain ⟨vs, rv, r⟩ := pvsB_ok h4
        refine ⟨.ref a, rfl, fun φ H => ⟨a, vs, rfl, .inr ⟨_, its, n, q, ?_, rfl, rfl, of_decide_eq_true h3, rv⟩, r φ H⟩⟩
        exact congrArg Value.type (of_decide_eq_true h1)
      · cases e
    | _ => cases e
  | .ref n, u, e => by cases u <;> cases e
  | .ty n, u, e => by cases u <;> cases e
theorem pvsB_ok {K : PySem.W.Frag} : ∀ {l : List PV} {us : List Value}, pvsB K l us = true → ∃ vs, Vals vs us ∧ ∀ φ H, RVs K φ H l vs
  | [], [], _ => ⟨[], .nil, fun _ _ => rfl⟩
  | [], _ :: _, e => by cases e
  | _ :: _, [], e => by cases e
  | p :: l, u :: us, e => by
    obtain ⟨h1, h2⟩ := Bool.and_eq_true_iff.mp (show (pvB K p u && pvsB K l us) = true from e)
    obtain ⟨v, r1, r2⟩ := pvB_ok h1
    obtain ⟨vs, r3, r4⟩ := pvsB_ok h2
    exact ⟨v :: vs, .cons r1 r3, fun φ H => RVs.cons (r2 φ H) (r4 φ H)⟩
end
/-- the module's name x is the plain value p -/
def conB (K : PySem.W.Frag) (x : Str) (p : PV) : Bool := match PySem.W.nsIn K mainGlobals x with
  | some (some u) => pvB K p u
  | _ => false
/-- what a body may use of a constant -/
def ConI (K : PySem.W.Frag) (mg : Str → Option Value) (x : Str) (p : PV) : Prop := ∃ u v, mg x = some u ∧ RelV v u ∧ ∀ φ H, RV K φ H p v
theorem conB_ok {K : PySem.W.Frag} {h : Heap} {mg : Str → Option Value} (X : K.In h) (G : h.Ns mainGlobals mg) {x : Str} {p : PV} (e : conB K x p = true) : ConI K mg x p := by
  unfold conB at e
  split at e
  · rename_i u q
    obtain ⟨v, r1, r2⟩ := pvB_ok e
    exact ⟨u, v, PySem.W.mg_of X G q, r1, r2⟩
  · cases e
theorem je_con {X : Cx} {W : WX} {C : Calls} {x : Str} {p : PV} {pos : Pos} (c : ConI X.K X.mg x p) (hg : Gl X x := by rfl) (hd : (x == ("__debug__" : Str)) = false := by decide) : JE X W C (.Name x pos) (.lit p) := by
  obtain ⟨u, v, hm, r, rr⟩ := c
  exact je_glob hm r rr hg hd

/-! ### the head's facts, with one more Bool -/
abbrev AlE : Type := He.AlD × Bool
def hookE (n : Nat) (fa : List He.Fa) (fn : List He.DefD) (ex : PySem.W.Frag → Bool) : PySem.W.Hook where
  α := AlE
  obs := fun s => (He.obsDG n fa fn s.heap.get?, ex (He.frG s.heap.get? (He.asD s.heap.get? n)))
  val := fun _ => (He.valD fn, true)
  says := fun _ h => ∃ K : PySem.W.Frag, K.In h ∧ He.SaysD fa fn K ∧ ex K = true
  of := fun _ _ e => ⟨_, He.frG_in, congrArg Prod.fst e, congrArg Prod.snd e⟩
  keeps := fun _ _ _ ⟨K, hK, c⟩ k => ⟨K, PySem.W.Frag.In.keeps hK k, c⟩
def obsE (n : Nat) (fa : List He.Fa) (fn : List He.DefD) (ex : PySem.W.Frag → Bool) (s : PySem.W.SharedT) : AlE := (He.obsDG n fa fn (HandSHeadRun.getT s), ex (He.frG (HandSHeadRun.getT s) (He.asD (HandSHeadRun.getT s) n)))
theorem obsE_eq {n : Nat} {fa : List He.Fa} {fn : List He.DefD} {ex : PySem.W.Frag → Bool} (s : PySem.W.SharedT) : obsE n fa fn ex s = (hookE n fa fn ex).obs s.abs := by
  have e : HandSHeadRun.getT s = s.abs.heap.get? := funext (HandSHeadRun.getT_eq s)
  unfold obsE
  rw [e]
  rfl
/-- the script: a constant list of ints -/
theorem script_rv {K : PySem.W.Frag} {H : Hp} {a : Addr} {ns : List Int} (hO : Only H) (hS : SqL K H a (ns.map V.int)) : RV K [] H (.cl (ns.map PV.int)) (.ref a) := by
  have rs : ∀ ns : List Int, RVs K [] H (ns.map PV.int) (ns.map V.int) := fun ns => by
    induction ns with
    | nil => exact rfl
    | cons n ns ih => exact RVs.cons rfl ih
  rcases hS with (h | ⟨o, h⟩) | h
  · rcases hO a with z | ⟨o, xs, z⟩
    · rw [z] at h; cases h
    · rw [z] at h; cases h
  · exact ⟨a, _, rfl, .inl ⟨⟨o, h⟩, by simp⟩, rs ns⟩
  · exact ⟨a, _, rfl, .inr h, rs ns⟩
theorem sim_nil {K : PySem.W.Frag} {H : Hp} : Sim K [] [] H := ⟨rfl, List.nodup_nil, fun n o e => by simp at e⟩
/-- the law's promise from the interpreter's answer -/
theorem law_end {K : PySem.W.Frag} {mg : Str → Option Value} {C : Calls} {fi : Nat} (hl : ∀ ns : List Int, ns.length ≤ 63 → ∃ h, C fi [.cl (ns.map PV.int)] [] = .ok (.bl true) h) (H : Hp) (a : Addr) (ns : List Int) (hn : ns.length ≤ 63) (hO : Only H) (hS : SqL K H a (ns.map V.int)) :
    spF K mg C fi 1 [.ref a] H (fun v _ => v = .bl true) fun _ _ _ => False := by
  obtain ⟨h, e⟩ := hl ns hn
  refine ⟨rfl, [], [], [.cl (ns.map PV.int)], sim_nil, RVs.cons (script_rv hO hS) RVs.nil, ?_⟩
  rw [e]
  intro φ' H' b x s r
  exact r
theorem cx_false {P : Program} {w : World} {H : Hp} {s : Shared} {e : Value} {s' : Shared} (h : L2.CX P w [] H s (fun _ _ _ => False) e s') : False := by
  obtain ⟨_, _, _, _, _, _, _, _, _, _, _, _, z⟩ := h
  exact z.elim
/-- a law's end: F gives the written part and the law's promise -/
theorem walk_ofW {l : PySem.W.OpenLaw} {n k : Nat} {q : Program} {loose : List Str} {XP : (Str → Option Value) → Heap → Prop} {YP : World → Heap → Prop} {d : DefRec} {x : Str}
    (hn : l.most = some n) (hn2 : n ≤ sizeLine) (hdf : d.params.defaults = []) (hr : Room k callerA)
    (F : ∀ (w : World) (mg : Str → Option Value) (fa : Addr) (h : Heap), YP w h → h.Ns mainGlobals mg → mg d.name = some (.ref fa) →
      ∃ (K : PySem.W.Frag) (fd : FuncData) (sp : Sp), K.In h ∧ (∀ (s : Shared) (u : Value), BindsTo s fd ⟨[u], []⟩ [(x, u)]) ∧
        (∀ (H : Hp) (a : Addr) (ns : List Int), ns.length ≤ n → Only H → SqL K H a (ns.map V.int) → sp [.ref a] H (fun v _ => v = .bl true) fun _ _ _ => False) ∧
        ∀ base : Heap, K.In base → base.Ns mainGlobals mg → FnOk l.prog w K mg base (L2.CX l.prog w) k fa fd [x] sp) :
    PySem.W.WalkO q loose XP YP l.row.toRowW d [] (fun f vs => PySem.call f vs) := by
  refine Att.attach_call hn hdf fun w s₀ s₁ mg mb fa o pm cd doc a vs ns G Y ho hd hcd hmg hobj hints hlen hg => ?_
  obtain ⟨K, fd, sp, KX, hb, hsp, hF⟩ := F w mg fa _ Y G.T.g hmg
  exact law_call KX G.T.g G.T.b G.T.builtins G.T.nolimit hg hobj hints (Nat.le_trans hlen hn2) hr hF hb (fun H hO hS => hsp H a ns hlen hO hS) fun H e s' => cx_false
end Sb

set_option Elab.async false
set_option linter.all false
set_option maxRecDepth 100000
set_option maxHeartbeats 4000000
/-! Sb: reasoning about the plain interpreter: what an end satisfies. -/
namespace Sb
open PySem

def R.Sat {α : Type} (m : R α) (Q : α → PH → Prop) : Prop := match m with | .ok a h => Q a h | _ => False
@[simp] theorem sat_ok {α : Type} (a : α) (h : PH) (Q : α → PH → Prop) : (R.ok a h).Sat Q = Q a h := rfl
@[simp] theorem sat_no {α : Type} (Q : α → PH → Prop) : (R.no : R α).Sat Q = False := rfl
@[simp] theorem sat_ex {α : Type} (x : Exn) (h : PH) (Q : α → PH → Prop) : (R.ex x h : R α).Sat Q = False := rfl
@[simp] theorem sat_bind {α β : Type} (m : R α) (f : α → PH → R β) (Q : β → PH → Prop) : (m.bind f).Sat Q = m.Sat fun a h => (f a h).Sat Q := by
  cases m <;> rfl
@[simp] theorem sat_calm {α : Type} (m : R α) (Q : α → PH → Prop) : m.calm.Sat Q = m.Sat Q := by
  cases m <;> rfl
theorem R.Sat.imp {α : Type} {m : R α} {Q Q' : α → PH → Prop} (s : m.Sat Q) (f : ∀ a h, Q a h → Q' a h) : m.Sat Q' := by
  cases m with
  | ok a h => exact f a h s
  | ex x h => exact s
  | no => exact s
theorem R.Sat.ex {α : Type} {m : R α} {Q : α → PH → Prop} (s : m.Sat Q) : ∃ a h, m = .ok a h ∧ Q a h := by
  cases m with
  | ok a h => exact ⟨a, h, rfl, s⟩
  | ex x h => exact s.elim
  | no => exact s.elim
theorem R.Sat.of {α : Type} {m : R α} {Q : α → PH → Prop} {a : α} {h : PH} (e : m = .ok a h) (q : Q a h) : m.Sat Q := by
  rw [e]
  exact q
@[simp] theorem sat_ofO {α : Type} (o : Option α) (h : PH) (Q : α → PH → Prop) : (ofO o h).Sat Q = ∃ a, o = some a ∧ Q a h := by
  cases o with
  | none => simp [ofO]
  | some a => simp [ofO]
@[simp] theorem sat_asB (m : R PV) (Q : Bool → PH → Prop) : (asB m).Sat Q = m.Sat fun x h => match x with | .bl b => Q b h | _ => False := by
  cases m with
  | ok p h => cases p <;> rfl
  | ex x h => rfl
  | no => rfl
/-- statements: N the next, T a return -/
def RS.Sat (m : RS) (N : Env → PH → Prop) (T : PV → PH → Prop) : Prop := match m with | .nx ρ h => N ρ h | .rt v h => T v h | _ => False
@[simp] theorem ssat_nx (ρ : Env) (h : PH) (N : Env → PH → Prop) (T : PV → PH → Prop) : (RS.nx ρ h).Sat N T = N ρ h := rfl
@[simp] theorem ssat_rt (v : PV) (h : PH) (N : Env → PH → Prop) (T : PV → PH → Prop) : (RS.rt v h).Sat N T = T v h := rfl
@[simp] theorem ssat_no (N : Env → PH → Prop) (T : PV → PH → Prop) : RS.no.Sat N T = False := rfl
@[simp] theorem ssat_seq (m : RS) (f : Env → PH → RS) (N : Env → PH → Prop) (T : PV → PH → Prop) : (m.seq f).Sat N T = m.Sat (fun ρ h => (f ρ h).Sat N T) T := by
  cases m <;> rfl
@[simp] theorem ssat_st {α : Type} (m : R α) (ρ : Env) (f : α → PH → RS) (N : Env → PH → Prop) (T : PV → PH → Prop) : (m.st ρ f).Sat N T = m.Sat fun a h => (f a h).Sat N T := by
  cases m <;> rfl
theorem RS.Sat.imp {m : RS} {N N' : Env → PH → Prop} {T T' : PV → PH → Prop} (s : m.Sat N T) (f : ∀ ρ h, N ρ h → N' ρ h) (g : ∀ v h, T v h → T' v h) : m.Sat N' T' := by
  cases m with
  | nx ρ h => exact f ρ h s
  | rt v h => exact g v h s
  | bk _ _ => exact s
  | ct _ _ => exact s
  | ex _ _ _ => exact s
  | no => exact s
/-! ### the interpreter, one step -/
section
variable {C : Calls} {t : Bool} {ρ : Env} {h : PH} {a b c : E}
@[simp] theorem g_var (i : Nat) : evG C (.var i) t ρ h = fin t (ofO (ρ.get i) h) := by rfl
@[simp] theorem g_lit (v : PV) : evG C (.lit v) t ρ h = fin t (.ok v h) := by rfl
@[simp] theorem g_bin (op : Operator) : evG C (.bin op a b) t ρ h = fin t ((evG C a false ρ h).bind fun x h1 => (evG C b false ρ h1).bind fun y h2 => binop op x y h2) := by rfl
@[simp] theorem g_neg : evG C (.neg a) t ρ h = fin t ((evG C a false ρ h).bind fun x h1 => match x with | .int i => .ok (.int (-i)) h1 | _ => .no) := by rfl
@[simp] theorem g_nt : evG C (.nt a) t ρ h = (evG C a t ρ h).bind fun x h1 => match x with | .bl b => .ok (.bl (!b)) h1 | _ => .no := by rfl
@[simp] theorem g_and : evG C (.band a b) t ρ h = (evG C a t ρ h).bind fun x h1 => match x with | .bl true => evG C b t ρ h1 | .bl false => .ok (.bl false) h1 | _ => .no := by
  rfl
@[simp] theorem g_or : evG C (.bor a b) t ρ h = (evG C a t ρ h).bind fun x h1 => match x with | .bl false => evG C b t ρ h1 | .bl true => .ok (.bl true) h1 | _ => .no := by
  rfl
@[simp] theorem g_cmp (op : CmpOp) : evG C (.cmp op a b) t ρ h = fin t ((evG C a false ρ h).bind fun x h1 => (evG C b false ρ h1).bind fun y h2 => cmpop op x y h2) := by rfl
@[simp] theorem g_ite : evG C (.ite c a b) t ρ h = fin t ((evG C c true ρ h).bind fun x h1 => match x with | .bl true => evG C a false ρ h1 | .bl false => evG C b false ρ h1 | _ => .no) := by
  rfl
@[simp] theorem g_tup (es : List E) : evG C (.tup es) t ρ h = fin t ((evGs C es ρ h).bind fun l h1 => tupO l h1) := by rfl
@[simp] theorem g_lst (es : List E) : evG C (.lst es) t ρ h = fin t ((evGs C es ρ h).bind fun l h1 => alloc l h1) := by rfl
@[simp] theorem g_idx : evG C (.idx a b) t ρ h = fin t ((evG C a false ρ h).bind fun x h1 => (evG C b false ρ h1).bind fun y h2 => idxop x y h2) := by rfl
@[simp] theorem g_slc (lo hi : Option E) : evG C (.slc a lo hi) t ρ h = fin t ((evG C a false ρ h).bind fun x h1 => (evGo C lo ρ h1).bind fun l h2 => (evGo C hi ρ h2).bind fun u h3 => slcop x l u h3) := by rfl
@[simp] theorem g_call (f : Nat) (es : List E) (ds : List PV) : evG C (.call f es ds) t ρ h = fin t ((evGs C es ρ h).bind fun l h1 => C f (l ++ ds) h1) := by rfl
@[simp] theorem g_bi (b : BI) (es : List E) : evG C (.bi b es) t ρ h = fin t ((evGs C es ρ h).bind fun l h1 => biF b l h1) := by rfl
@[simp] theorem g_mth (m : MT) (es : List E) : evG C (.mth m a es) t ρ h = fin t ((evG C a false ρ h).bind fun x h1 => if tyOf h1 x = some m.ty then (evGs C es ρ h1).bind fun l h2 => mtF m x l h2 else .no) := by rfl
theorem g_comp (tg : List Nat) (one : Bool) (k : ITK) (its : List E) (cond : Option E) (own : List Nat) : evG C (.comp a tg one k its cond own) t ρ h = fin t ((evGs C its ρ h).bind fun l h1 =>
      match walkF k l h1 with
      | some (items, kp) => (compLoop kp (fun x => setTg (wipeP ρ own) tg one x) (fun ρ1 h2 => (evGc C cond ρ1 h2).calm) (fun ρ1 h2 => (evG C a false ρ1 h2).calm) items [] h1).bind fun l h2 => alloc l h2
      | none => .no) := by rfl
@[simp] theorem gs_nil : evGs C [] ρ h = .ok [] h := by rfl
@[simp] theorem gs_cons (e : E) (es : List E) : evGs C (e :: es) ρ h = (evG C e false ρ h).bind fun x h1 => (evGs C es ρ h1).bind fun l h2 => .ok (x :: l) h2 := by rfl
@[simp] theorem go_none : evGo C none ρ h = .ok none h := by rfl
@[simp] theorem go_some : evGo C (some a) ρ h = (evG C a false ρ h).bind fun x h1 => match x with | .int i => .ok (some i) h1 | _ => .no := by rfl
@[simp] theorem gc_none : evGc C none ρ h = .ok true h := by rfl
@[simp] theorem gc_some : evGc C (some a) ρ h = asB (evG C a true ρ h) := by rfl
@[simp] theorem t_eq : evT C a ρ h = asB (evG C a true ρ h) := rfl
end
@[simp] theorem fin_f (m : R PV) : fin false m = m := rfl
@[simp] theorem sat_fin_t (m : R PV) (Q : PV → PH → Prop) : (fin true m).Sat Q = m.Sat fun v h => ∃ b, truthy h v = some b ∧ Q (.bl b) h := by
  cases m with
  | ok v h =>
    show (ofO ((truthy h v).map .bl) h).Sat Q = _
    rw [sat_ofO, sat_ok]
    cases truthy h v <;> simp
  | ex x h => rfl
  | no => rfl
@[simp] theorem get0 (v : Option PV) (ρ : Env) : Env.get (v :: ρ) 0 = v := by cases v <;> rfl
@[simp] theorem getS (v : Option PV) (ρ : Env) (i : Nat) : Env.get (v :: ρ) (i + 1) = Env.get ρ i := by
  unfold Env.get
  simp
@[simp] theorem tru_bl (h : PH) (b : Bool) : truthy h (.bl b) = some b := rfl
@[simp] theorem tru_int (h : PH) (i : Int) : truthy h (.int i) = some (i != 0) := rfl
@[simp] theorem tru_non (h : PH) : truthy h .non = some false := rfl
@[simp] theorem tru_tup (h : PH) (l : List PV) : truthy h (.tup l) = some (!l.isEmpty) := rfl
theorem tru_ref {h : PH} {n : Nat} {l : List PV} (e : h[n]? = some (.lst l)) : truthy h (.ref n) = some (!l.isEmpty) := by simp only [truthy, e]
/-! ### statements -/
section
variable {C : Calls} {ρ : Env} {h : PH} {N : Env → PH → Prop} {T : PV → PH → Prop} {e : E} {s : S} {ss ss2 : List S}
@[simp] theorem x_nil : (exSs C [] ρ h).Sat N T = N ρ h := by simp only [exSs, ssat_nx]
theorem x_cons : (exSs C (s :: ss) ρ h).Sat N T = (exS C s ρ h).Sat (fun ρ1 h1 => (exSs C ss ρ1 h1).Sat N T) T := by simp only [exSs, ssat_seq]
@[simp] theorem x_one : (exSs C [s] ρ h).Sat N T = (exS C s ρ h).Sat N T := by simp only [x_cons, x_nil]
@[simp] theorem x_set (i : Nat) : (exS C (.asg (.nm i) e) ρ h).Sat N T = (evG C e false ρ h).Sat fun v h1 => N (ρ.set i (some v)) h1 := by simp only [exS, ssat_st, stTg, ssat_nx]
@[simp] theorem x_tup (is : List Nat) : (exS C (.asg (.tup is) e) ρ h).Sat N T = (evG C e false ρ h).Sat fun v h1 => match v with | .tup l => (∃ ρ', setAll ρ is l = some ρ' ∧ N ρ' h1) | _ => False := by
  simp only [exS, ssat_st]
  congr 1
  funext v h1
  cases v with
  | tup l =>
    simp only [stTg]
    cases setAll ρ is l <;> simp
  | _ => rfl
@[simp] theorem x_unl (is : List Nat) : (exS C (.asg (.unl is) e) ρ h).Sat N T = (evG C e false ρ h).Sat fun v h1 => match v with | .ref n => (∃ l ρ', h1[n]? = some (.lst l) ∧ setAll ρ is l = some ρ' ∧ N ρ' h1) | _ => False := by
  simp only [exS, ssat_st]
  congr 1
  funext v h1
  cases v with
  | ref n =>
    simp only [stTg]
    cases h1[n]? with
    | none => simp
    | some o =>
      cases o with
      | lst l => cases e : setAll ρ is l <;> simp [e]
  | _ => rfl
@[simp] theorem x_sub (o i : E) : (exS C (.asg (.sub o i) e) ρ h).Sat N T = (evG C e false ρ h).Sat fun v h1 => (evG C o false ρ h1).Sat fun x h2 => (evG C i false ρ h2).Sat fun y h3 => ∃ h4, setop x y v h3 = some h4 ∧ N ρ h4 := by
  simp only [exS, ssat_st, stTg]
  congr 1
  funext v h1
  congr 1
  funext x h2
  congr 1
  funext y h3
  cases setop x y v h3 <;> simp
@[simp] theorem x_if (t : E) : (exS C (.ifs t ss ss2) ρ h).Sat N T = (evG C t true ρ h).Sat fun x h1 => match x with | .bl true => (exSs C ss ρ h1).Sat N T | .bl false => (exSs C ss2 ρ h1).Sat N T | _ => False := by
  simp only [exS, ssat_st, t_eq, sat_asB]
  congr 1
  funext x h1
  cases x with
  | bl k => cases k <;> rfl
  | _ => rfl
@[simp] theorem x_ret : (exS C (.ret e) ρ h).Sat N T = (evG C e false ρ h).Sat T := by simp only [exS, ssat_st, ssat_rt]
@[simp] theorem x_ex : (exS C (.ex e) ρ h).Sat N T = (evG C e false ρ h).Sat fun _ h1 => N ρ h1 := by simp only [exS, ssat_st, ssat_nx]
@[simp] theorem x_aug (i : Nat) (op : Operator) : (exS C (.aug i op e) ρ h).Sat N T = ∃ x, ρ.get i = some x ∧ (evG C e false ρ h).Sat fun y h1 => (iopF op x y h1).Sat fun z h2 => N (ρ.set i (some z)) h2 := by
  simp only [exS]
  cases ρ.get i with
  | none => simp
  | some x => simp
@[simp] theorem x_augs (o i : E) (op : Operator) : (exS C (.augs o i op e) ρ h).Sat N T = (evG C o false ρ h).Sat fun ov h1 => (evG C i false ρ h1).Sat fun iv h2 => (getL ov iv h2).Sat fun x h3 => (evG C e false ρ h3).Sat fun y h4 => (iopF op x y h4).Sat fun z h5 => ∃ h6, setop ov iv z h5 = some h6 ∧ N ρ h6 := by
  simp only [exS, ssat_st]
  congr 1
  funext v h1
  congr 1
  funext x h2
  congr 1
  funext y h3
  congr 1
  funext y h3
  congr 1
  funext z h5
  cases setop v x z h5 <;> simp
end
/-- a def -/
theorem fn_sat {C : Calls} {f : Fn} {vs : List PV} {h : PH} {Q : PV → PH → Prop} (hl : vs.length = f.np) (s : (exSs C f.body (startP f.ns vs) h).Sat (fun _ h => Q .non h) Q) : (runFn C f vs h).Sat Q := by
  unfold runFn
  rw [if_pos hl]
  generalize exSs C f.body (startP f.ns vs) h = m at s
  cases m with
  | nx ρ h => exact s
  | rt v h => exact s
  | bk _ _ => exact s
  | ct _ _ => exact s
  | ex _ _ _ => exact s
  | no => exact s
theorem call_succ (tbl : Nat → Fn) (k f : Nat) (vs : List PV) (h : PH) : call tbl (k + 1) f vs h = runFn (call tbl k) (tbl f) vs h := rfl
/-! ### loops -/
theorem whileN_sat {t : Env → PH → R Bool} {b : Env → PH → RS} {N : Env → PH → Prop} {T : PV → PH → Prop} (I : Nat → Env → PH → Prop)
    (hs : ∀ n ρ h, I n ρ h → (t ρ h).Sat fun c h1 => if c = true then (b ρ h1).Sat (fun ρ' h' => ∃ n', n' < n ∧ I n' ρ' h') T else N ρ h1) : ∀ (n m : Nat) (ρ : Env) (h : PH), n < m → I n ρ h → (whileF t b ρ h).Sat N T
  | n, 0, ρ, h, hm, _ => absurd hm (Nat.not_lt_zero _)
  | n, m + 1, ρ, h, hm, hi => by
    rw [whileF_eq, ssat_st]
    refine (hs n ρ h hi).imp fun c h1 q => ?_
    cases c with
    | false => exact q
    | true =>
      simp only [if_true] at q ⊢
      generalize b ρ h1 = r at q
      cases r with
      | nx ρ' h' =>
        obtain ⟨n', q1, q2⟩ := q
        exact whileN_sat I hs n' m ρ' h' (by omega) q2
      | rt v h' => exact q
      | bk _ _ => exact q.elim
      | ct _ _ => exact q.elim
      | ex _ _ _ => exact q.elim
      | no => exact q.elim
/-- a while, by an invariant with a number that falls -/
theorem x_whl {C : Calls} {e : E} {ss : List S} {ρ : Env} {h : PH} {N : Env → PH → Prop} {T : PV → PH → Prop} (I : Nat → Env → PH → Prop) (n : Nat) (hi : I n ρ h)
    (hs : ∀ n ρ h, I n ρ h → (evG C e true ρ h).Sat fun c h1 => match c with | .bl true => (exSs C ss ρ h1).Sat (fun ρ' h' => ∃ n', n' < n ∧ I n' ρ' h') T | .bl false => N ρ h1 | _ => False) : (exS C (.whl e ss) ρ h).Sat N T := by
  simp only [exS]
  refine whileN_sat I (fun n ρ h hi => ?_) n _ ρ h (Nat.lt_succ_self _) hi
  rw [t_eq, sat_asB]
  refine (hs n ρ h hi).imp fun c h1 q => ?_
  cases c with
  | bl k => cases k <;> simpa using q
  | _ => exact q
theorem for_sat {kp : Keep} {bind : Env → PV → Option Env} {b : Env → PH → RS} {N : Env → PH → Prop} {T : PV → PH → Prop} (I : Nat → Env → PH → Prop) : ∀ (items : List PV) (j : Nat) (ρ : Env) (h : PH), I j ρ h →
    (∀ (i : Nat) (x : PV) ρ h, items[i]? = some x → I (j + i) ρ h → stays kp h ∧ ∃ ρ1, bind ρ x = some ρ1 ∧ (b ρ1 h).Sat (I (j + i + 1)) T) → (∀ ρ h, I (j + items.length) ρ h → stays kp h ∧ N ρ h) → (forLoop kp bind b items ρ h).Sat N T
  | [], j, ρ, h, hi, _, hd => by
    obtain ⟨h1, h2⟩ := hd ρ h hi
    unfold forLoop
    rw [if_pos h1]
    exact h2
  | x :: xs, j, ρ, h, hi, hs, hd => by
    obtain ⟨h1, ρ1, h2, h3⟩ := hs 0 x ρ h rfl hi
    unfold forLoop
    rw [if_pos h1, h2]
    show ((b ρ1 h).turn _).Sat N T
    generalize b ρ1 h = r at h3
    have go : ∀ ρ' h', I (j + 1) ρ' h' → (forLoop kp bind b xs ρ' h').Sat N T := fun ρ' h' hi' => for_sat I xs (j + 1) ρ' h' hi' (fun i y ρ h e q => by
      have := hs (i + 1) y ρ h (by simpa using e)
      rw [show j + (i + 1) = j + 1 + i by omega] at this
      exact this q) (fun ρ h q => hd ρ h (by rw [List.length_cons, show j + (xs.length + 1) = j + 1 + xs.length by omega]; exact q))
    cases r with
    | nx ρ' h' => exact go ρ' h' h3
    | rt v h' => exact h3
    | bk _ _ => exact h3.elim
    | ct _ _ => exact h3.elim
    | ex _ _ _ => exact h3.elim
    | no => exact h3.elim
theorem x_for {C : Calls} {tg : List Nat} {one : Bool} {k : ITK} {its : List E} {ss : List S} {ρ : Env} {h : PH} {N : Env → PH → Prop} {T : PV → PH → Prop}
    (s : (evGs C its ρ h).Sat fun l h1 => ∃ items kp, walkF k l h1 = some (items, kp) ∧ ∃ I : Nat → Env → PH → Prop, I 0 ρ h1 ∧
      (∀ (i : Nat) (x : PV) ρ h, items[i]? = some x → I i ρ h → stays kp h ∧ ∃ ρ1, setTg ρ tg one x = some ρ1 ∧ (exSs C ss ρ1 h).Sat (I (i + 1)) T) ∧ (∀ ρ h, I items.length ρ h → stays kp h ∧ N ρ h)) : (exS C (.fr tg one k its ss) ρ h).Sat N T := by
  simp only [exS, ssat_st]
  refine s.imp fun l h1 ⟨items, kp, e, I, h0, hs, hd⟩ => ?_
  rw [e]
  refine for_sat I items 0 ρ h1 h0 (fun i x ρ h e q => ?_) fun ρ h q => hd ρ h (by simpa using q)
  have := hs i x ρ h e (by simpa using q)
  simpa using this
theorem comp_sat {kp : Keep} {bind : PV → Option Env} {t : Env → PH → R Bool} {e : Env → PH → R PV} {Q : List PV → PH → Prop} (I : Nat → List PV → PH → Prop) : ∀ (items : List PV) (j : Nat) (acc : List PV) (h : PH), I j acc h →
    (∀ (i : Nat) (x : PV) acc h, items[i]? = some x → I (j + i) acc h → stays kp h ∧ ∃ ρ1, bind x = some ρ1 ∧ (t ρ1 h).Sat fun b h1 => if b = true then (e ρ1 h1).Sat fun v h2 => lineOk (acc.length + 1) = true ∧ I (j + i + 1) (acc ++ [v]) h2 else I (j + i + 1) acc h1) →
    (∀ acc h, I (j + items.length) acc h → stays kp h ∧ Q acc h) → (compLoop kp bind t e items acc h).Sat Q
  | [], j, acc, h, hi, _, hd => by
    obtain ⟨h1, h2⟩ := hd acc h hi
    unfold compLoop
    rw [if_pos h1]
    exact h2
  | x :: xs, j, acc, h, hi, hs, hd => by
    obtain ⟨h1, ρ1, h2, h3⟩ := hs 0 x acc h rfl hi
    unfold compLoop
    rw [if_pos h1, h2]
    show ((t ρ1 h).bind _).Sat Q
    rw [sat_bind]
    have go : ∀ acc' h', I (j + 1) acc' h' → (compLoop kp bind t e xs acc' h').Sat Q := fun acc' h' hi' => comp_sat I xs (j + 1) acc' h' hi' (fun i y ρ h e q => by
      have := hs (i + 1) y ρ h (by simpa using e)
      rw [show j + (i + 1) = j + 1 + i by omega] at this
      exact this q) (fun ρ h q => hd ρ h (by rw [List.length_cons, show j + (xs.length + 1) = j + 1 + xs.length by omega]; exact q))
    refine h3.imp fun b h4 q => ?_
    cases b with
    | false => exact go acc h4 (by simpa using q)
    | true =>
      simp only [if_true] at q ⊢
      rw [sat_bind]
      refine q.imp fun v h5 ⟨q1, q2⟩ => ?_
      rw [if_pos q1]
      exact go _ h5 q2
/-- a comprehension -/
theorem v_comp {C : Calls} {tg : List Nat} {one : Bool} {k : ITK} {its : List E} {cond : Option E} {own : List Nat} {a : E} {ρ : Env} {h : PH} {Q : PV → PH → Prop}
    (s : (evGs C its ρ h).Sat fun l h1 => ∃ items kp, walkF k l h1 = some (items, kp) ∧ ∃ I : Nat → List PV → PH → Prop, I 0 [] h1 ∧
      (∀ (i : Nat) (x : PV) acc h, items[i]? = some x → I i acc h → stays kp h ∧ ∃ ρ1, setTg (wipeP ρ own) tg one x = some ρ1 ∧ (evGc C cond ρ1 h).Sat fun b h1 => if b = true then (evG C a false ρ1 h1).Sat fun v h2 => lineOk (acc.length + 1) = true ∧ I (i + 1) (acc ++ [v]) h2 else I (i + 1) acc h1) ∧
      (∀ acc h, I items.length acc h → stays kp h ∧ lineOk acc.length = true ∧ Q (.ref h.length) (h ++ [.lst acc]))) : (evG C (.comp a tg one k its cond own) false ρ h).Sat Q := by
  rw [g_comp, fin_f, sat_bind]
  refine s.imp fun l h1 ⟨items, kp, e, I, h0, hs, hd⟩ => ?_
  rw [e]
  show ((compLoop kp _ _ _ items [] h1).bind _).Sat Q
  rw [sat_bind]
  refine comp_sat I items 0 [] h1 h0 (fun i x acc h e q => ?_) fun acc h q => ?_
  · obtain ⟨q1, ρ1, q2, q3⟩ := hs i x acc h e (by simpa using q)
    refine ⟨q1, ρ1, q2, ?_⟩
    rw [sat_calm]
    refine q3.imp fun b h2 q4 => ?_
    cases b with
    | false => simpa using q4
    | true => simpa using q4
  · obtain ⟨q1, q2, q3⟩ := hd acc h (by simpa using q)
    refine ⟨q1, ?_⟩
    unfold alloc
    rw [if_pos q2]
    exact q3
/-- .. where what is walked is known -/
theorem v_compE {C : Calls} {tg : List Nat} {one : Bool} {k : ITK} {its : List E} {cond : Option E} {own : List Nat} {a : E} {ρ : Env} {h h1 : PH} {Q : PV → PH → Prop} {l items : List PV} {kp : Keep} (e1 : evGs C its ρ h = .ok l h1) (e2 : walkF k l h1 = some (items, kp)) (I : Nat → List PV → PH → Prop) (h0 : I 0 [] h1)
    (hs : ∀ (i : Nat) (x : PV) acc h, items[i]? = some x → I i acc h → stays kp h ∧ ∃ ρ1, setTg (wipeP ρ own) tg one x = some ρ1 ∧ (evGc C cond ρ1 h).Sat fun b h1 => if b = true then (evG C a false ρ1 h1).Sat fun v h2 => lineOk (acc.length + 1) = true ∧ I (i + 1) (acc ++ [v]) h2 else I (i + 1) acc h1)
    (hd : ∀ acc h, I items.length acc h → stays kp h ∧ lineOk acc.length = true ∧ Q (.ref h.length) (h ++ [.lst acc])) : (evG C (.comp a tg one k its cond own) false ρ h).Sat Q :=
  v_comp (by rw [e1]; exact ⟨items, kp, e2, I, h0, hs, hd⟩)
theorem x_forE {C : Calls} {tg : List Nat} {one : Bool} {k : ITK} {its : List E} {ss : List S} {ρ : Env} {h h1 : PH} {N : Env → PH → Prop} {T : PV → PH → Prop} {l items : List PV} {kp : Keep} (e1 : evGs C its ρ h = .ok l h1) (e2 : walkF k l h1 = some (items, kp)) (I : Nat → Env → PH → Prop) (h0 : I 0 ρ h1)
    (hs : ∀ (i : Nat) (x : PV) ρ h, items[i]? = some x → I i ρ h → stays kp h ∧ ∃ ρ1, setTg ρ tg one x = some ρ1 ∧ (exSs C ss ρ1 h).Sat (I (i + 1)) T) (hd : ∀ ρ h, I items.length ρ h → stays kp h ∧ N ρ h) : (exS C (.fr tg one k its ss) ρ h).Sat N T :=
  x_for (by rw [e1]; exact ⟨items, kp, e2, I, h0, hs, hd⟩)
/-! ### operators, one step -/
section
variable {h : PH} {i j : Int} {α : Type}
@[simp] theorem sat_ite (c : Prop) [Decidable c] (m n : R α) (Q : α → PH → Prop) : (if c then m else n).Sat Q = if c then m.Sat Q else n.Sat Q := by split <;> rfl
@[simp] theorem b_add : binop .Add (.int i) (.int j) h = .ok (.int (i + j)) h := rfl
@[simp] theorem b_sub : binop .Sub (.int i) (.int j) h = .ok (.int (i - j)) h := rfl
theorem b_mul (e : mulOk i j = true) : binop .Mult (.int i) (.int j) h = .ok (.int (i * j)) h := by
  show (if mulOk i j then _ else _) = _
  rw [if_pos e]
theorem b_fdiv (e : divOk j = true) : binop .FloorDiv (.int i) (.int j) h = .ok (.int (i.fdiv j)) h := by
  show (if divOk j then _ else _) = _
  rw [if_pos e]
theorem b_mod (e : j ≠ 0) : binop .Mod (.int i) (.int j) h = .ok (.int (i.fmod j)) h := by
  show (if j = 0 then _ else _) = _
  rw [if_neg e]
theorem b_pow (e : powOk i j = true) : binop .Pow (.int i) (.int j) h = .ok (.int (i ^ j.toNat)) h := by
  show (if powOk i j then _ else _) = _
  rw [if_pos e]
@[simp] theorem c_lt : cmpop .Lt (.int i) (.int j) h = .ok (.bl (decide (i < j))) h := rfl
@[simp] theorem c_le : cmpop .LtE (.int i) (.int j) h = .ok (.bl (decide (i ≤ j))) h := rfl
@[simp] theorem c_gt : cmpop .Gt (.int i) (.int j) h = .ok (.bl (decide (j < i))) h := rfl
@[simp] theorem c_ge : cmpop .GtE (.int i) (.int j) h = .ok (.bl (decide (j ≤ i))) h := rfl
@[simp] theorem c_eqI : cmpop .Eq (.int i) (.int j) h = .ok (.bl (decide (i = j))) h := by
  show ofO ((eqP h (.int i) (.int j)).map PV.bl) h = _
  have : eqP h (.int i) (.int j) = some (i == j) := by simp [eqP, pd, PyData.eqv]
  rw [this]
  show R.ok (PV.bl (i == j)) h = _
  rw [show (i == j) = decide (i = j) from by rw [Bool.eq_iff_iff]; simp]
@[simp] theorem c_neI : cmpop .NotEq (.int i) (.int j) h = .ok (.bl (!decide (i = j))) h := by
  show ofO ((eqP h (.int i) (.int j)).map fun b => PV.bl (!b)) h = _
  have : eqP h (.int i) (.int j) = some (i == j) := by simp [eqP, pd, PyData.eqv]
  rw [this]
  show R.ok (PV.bl (!(i == j))) h = _
  rw [show (i == j) = decide (i = j) from by rw [Bool.eq_iff_iff]; simp]
@[simp] theorem c_eqB (a b : Bool) : cmpop .Eq (.bl a) (.bl b) h = .ok (.bl (decide (a = b))) h := by cases a <;> cases b <;> rfl
@[simp] theorem c_neB (a b : Bool) : cmpop .NotEq (.bl a) (.bl b) h = .ok (.bl (!decide (a = b))) h := by cases a <;> cases b <;> rfl
@[simp] theorem c_eqS (a b : Str) : cmpop .Eq (.str a) (.str b) h = .ok (.bl (decide (a = b))) h := rfl
@[simp] theorem c_isN (a : PV) : cmpop .Is a .non h = .ok (.bl (isNonP a)) h := by cases a <;> rfl
@[simp] theorem c_isnN (a : PV) : cmpop .IsNot a .non h = .ok (.bl (!isNonP a)) h := by cases a <;> rfl
@[simp] theorem io_add : iopF .Add (.int i) (.int j) h = .ok (.int (i + j)) h := rfl
@[simp] theorem tupO_small (l : List PV) (e : l.length ≤ 1000000) : tupO l h = .ok (.tup l) h := by
  unfold tupO
  rw [if_pos (show lineOk l.length = true from decide_eq_true e)]
theorem alloc_small (l : List PV) (e : l.length ≤ 1000000) : alloc l h = .ok (.ref h.length) (h ++ [.lst l]) := by
  unfold alloc
  rw [if_pos (show lineOk l.length = true from decide_eq_true e)]
theorem idx_ref {n : Nat} {l : List PV} {v : PV} (e : h[n]? = some (.lst l)) (e2 : L2.atI l i = some v) : idxop (.ref n) (.int i) h = .ok v h := by
  unfold idxop
  simp only [seqOf, e, e2, ofO_some]
theorem idx_tup {l : List PV} {v : PV} (e2 : L2.atI l i = some v) : idxop (.tup l) (.int i) h = .ok v h := by
  unfold idxop
  simp only [seqOf, e2, ofO_some]
theorem at_nat {β : Type} {l : List β} {n : Nat} {v : β} (e : l[n]? = some v) : L2.atI l (n : Int) = some v := by
  unfold L2.atI L2.ixN
  have := (List.getElem?_eq_some_iff.mp e).1
  rw [if_pos (by omega), if_pos (by omega)]
  simpa using e
theorem at_pos {β : Type} {l : List β} {i : Int} {v : β} (h0 : 0 ≤ i) (e : l[i.toNat]? = some v) : L2.atI l i = some v := by
  have := at_nat (n := i.toNat) e
  rwa [Int.toNat_of_nonneg h0] at this
end
/-! ### ints -/
theorem fmod_pos {a b : Int} (h : 0 < b) : a.fmod b = a % b := Int.fmod_eq_emod_of_nonneg a (by omega)
theorem fdiv_pos {a b : Int} (h : 0 < b) : a.fdiv b = a / b := Int.fdiv_eq_ediv_of_nonneg a (by omega)
theorem log2_small {x : Int} {n : Nat} (h0 : 0 < n) (h : x.natAbs < 2 ^ n) : x.natAbs.log2 < n := PySem.Flt.log2_lt_of h0 h
theorem mul_ok {i j : Int} {a b : Nat} (ha : i.natAbs < 2 ^ a) (hb : j.natAbs < 2 ^ b) (h0 : 0 < a) (h1 : 0 < b) (h : a + b ≤ 1000000) : mulOk i j = true := by
  have x := log2_small h0 ha
  have y := log2_small h1 hb
  exact decide_eq_true (by omega)
theorem div_ok {j : Int} {b : Nat} (hj : j ≠ 0) (hb : j.natAbs < 2 ^ b) (h1 : 0 < b) (h : b ≤ 9000) : divOk j = true := by
  have y := log2_small h1 hb
  unfold divOk
  rw [decide_eq_true hj, decide_eq_true (show j.natAbs.log2 < 9000 by omega)]
  rfl
theorem line_small {n : Nat} (h : n ≤ 1000000) : lineOk n = true := decide_eq_true h
end Sb

set_option linter.all false
set_option maxRecDepth 100000
/-! the plain defs -/
namespace Sb
open PySem
def F_common : Fn := ⟨2, 2, [.asg (.tup [0, 1]) (.tup [(.bi .abs [(.var 0)]), (.bi .abs [(.var 1)])]),
  .whl (.cmp .Gt (.var 1) (.lit (.int 0))) [.asg (.tup [0, 1]) (.tup [(.var 1), (.bin .Mod (.var 0) (.var 1))])],
  .ret (.var 0)]⟩
def F_is_whole : Fn := ⟨1, 1, [.ret (.band (.bi .isinst [(.var 0), (.lit (.ty .int))]) (.nt (.bi .isinst [(.var 0), (.lit (.ty .bool))])))]⟩
def F_is_fraction : Fn := ⟨1, 2, [.ifs (.bor (.nt (.bi .isinst [(.var 0), (.lit (.ty .tuple))])) (.bor (.cmp .NotEq (.bi .len [(.var 0)]) (.lit (.int 2))) (.nt (.bi .all [(.comp (.call 1 [(.var 1)] []) [1] true .seq [(.var 0)] none [1])])))) [.ret (.lit (.bl false))] [],
  .ret (.band (.cmp .Gt (.idx (.var 0) (.lit (.int 1))) (.lit (.int 0))) (.cmp .Eq (.call 0 [(.idx (.var 0) (.lit (.int 0))), (.idx (.var 0) (.lit (.int 1)))] []) (.lit (.int 1))))]⟩
def F_is_move : Fn := ⟨1, 2, [.ifs (.bor (.nt (.bi .isinst [(.var 0), (.lit (.ty .tuple))])) (.bor (.cmp .NotEq (.bi .len [(.var 0)]) (.lit (.int 2))) (.nt (.bi .all [(.comp (.call 2 [(.var 1)] []) [1] true .seq [(.var 0)] none [1])])))) [.ret (.lit (.bl false))] [],
  .ret (.cmp .NotEq (.idx (.var 0) (.lit (.int 0))) (.lit (.tup [(.int 0), (.int 1)])))]⟩
def F_law_start : Fn := ⟨1, 3, [.asg (.nm 1) (.comp (.var 2) [2] true .seq [(.var 0)] (some (.cmp .GtE (.var 2) (.bin .Pow (.lit (.int 10)) (.lit (.int 18))))) [2]),
  .ret (.lst [(.var 1), (.lit (.int 0)), (.comp (.bin .Mod (.var 2) (.lit (.int 2147483587))) [2] true .seq [(.var 0)] none [2]), (.lit (.int 0))])]⟩
def F_law_mix : Fn := ⟨1, 4, [.augs (.var 0) (.lit (.int 3)) .Add (.lit (.int 1)),
  .asg (.nm 1) (.idx (.var 0) (.lit (.int 3))),
  .asg (.nm 2) (.lit (.int 11)),
  .ifs (.idx (.var 0) (.lit (.int 2))) [.asg (.nm 2) (.idx (.idx (.var 0) (.lit (.int 2))) (.bin .Mod (.var 1) (.bi .len [(.idx (.var 0) (.lit (.int 2)))])))] [],
  .asg (.nm 3) (.bin .Mod (.bin .Pow (.bin .Add (.bin .Add (.bin .Add (.var 2) (.bin .Mult (.bin .Mult (.lit (.int 769)) (.var 1)) (.var 1))) (.bin .Mult (.lit (.int 52361)) (.var 1))) (.lit (.int 23))) (.lit (.int 5))) (.lit (.int 2147483647))),
  .ret (.bin .Mod (.bin .Add (.bin .Mult (.var 3) (.lit (.int 48271))) (.bin .Mult (.lit (.int 6007)) (.var 1))) (.lit (.int 1000000007)))]⟩
def F_law_draw : Fn := ⟨2, 4, [.ifs (.band (.cmp .Eq (.idx (.var 0) (.lit (.int 1))) (.lit (.int 0))) (.idx (.var 0) (.lit (.int 0)))) [.asg (.sub (.var 0) (.lit (.int 1))) (.mth .popAt (.idx (.var 0) (.lit (.int 0))) [(.lit (.int 0))])] [],
  .ifs (.cmp .Gt (.idx (.var 0) (.lit (.int 1))) (.lit (.int 0))) [.asg (.nm 2) (.bin .Mod (.idx (.var 0) (.lit (.int 1))) (.var 1)),
  .asg (.sub (.var 0) (.lit (.int 1))) (.bin .FloorDiv (.idx (.var 0) (.lit (.int 1))) (.var 1)),
  .ret (.var 2)] [],
  .asg (.nm 2) (.lit (.int 0)),
  .asg (.nm 3) (.lit (.int 1)),
  .whl (.cmp .Lt (.var 3) (.var 1)) [.asg (.nm 2) (.bin .Add (.bin .Mult (.var 2) (.lit (.int 1000000007))) (.call 5 [(.var 0)] [])),
  .asg (.nm 3) (.bin .Mult (.var 3) (.lit (.int 1000000007)))],
  .ret (.bin .Mod (.var 2) (.var 1))]⟩
def F_law_same : Fn := ⟨2, 4, [.ifs (.bi .isinst [(.var 1), (.tup [(.lit (.ty .tuple)), (.lit (.ty .list))])]) [.ifs (.cmp .NotEq (.bi .isinst [(.var 0), (.lit (.ty .tuple))]) (.bi .isinst [(.var 1), (.lit (.ty .tuple))])) [.ret (.lit (.bl false))] [],
  .ifs (.bor (.cmp .NotEq (.bi .isinst [(.var 0), (.lit (.ty .list))]) (.bi .isinst [(.var 1), (.lit (.ty .list))])) (.cmp .NotEq (.bi .len [(.var 0)]) (.bi .len [(.var 1)]))) [.ret (.lit (.bl false))] [],
  .ret (.bi .all [(.comp (.call 7 [(.var 2), (.var 3)] []) [2, 3] false .zip [(.var 0), (.var 1)] none [2, 3])])] [],
  .ifs (.cmp .Is (.var 1) (.lit .non)) [.ret (.cmp .Is (.var 0) (.lit .non))] [],
  .ifs (.bi .isinst [(.var 1), (.lit (.ty .str))]) [.ret (.band (.bi .isinst [(.var 0), (.lit (.ty .str))]) (.cmp .Eq (.var 0) (.var 1)))] [],
  .ret (.band (.bi .isinst [(.var 0), (.lit (.ty .int))]) (.band (.cmp .Eq (.bi .isinst [(.var 0), (.lit (.ty .bool))]) (.bi .isinst [(.var 1), (.lit (.ty .bool))])) (.cmp .Eq (.var 0) (.var 1))))]⟩
def F_law_whole : Fn := ⟨1, 1, [.ret (.band (.bi .isinst [(.var 0), (.lit (.ty .int))]) (.nt (.bi .isinst [(.var 0), (.lit (.ty .bool))])))]⟩
def F_law_lowest : Fn := ⟨2, 4, [.asg (.nm 2) (.bi .abs [(.var 0)]),
  .asg (.nm 3) (.bi .abs [(.var 1)]),
  .whl (.cmp .Gt (.var 3) (.lit (.int 0))) [.asg (.tup [2, 3]) (.tup [(.var 3), (.bin .Mod (.var 2) (.var 3))])],
  .ifs (.cmp .Lt (.var 1) (.lit (.int 0))) [.asg (.nm 2) (.bin .Sub (.lit (.int 0)) (.var 2))] [],
  .ret (.tup [(.bin .FloorDiv (.var 0) (.var 2)), (.bin .FloorDiv (.var 1) (.var 2))])]⟩
def F_law_is_fraction : Fn := ⟨1, 1, [.ifs (.bor (.nt (.bi .isinst [(.var 0), (.lit (.ty .tuple))])) (.bor (.cmp .NotEq (.bi .len [(.var 0)]) (.lit (.int 2))) (.bor (.nt (.call 8 [(.idx (.var 0) (.lit (.int 0)))] [])) (.nt (.call 8 [(.idx (.var 0) (.lit (.int 1)))] []))))) [.ret (.lit (.bl false))] [],
  .ret (.band (.cmp .Gt (.idx (.var 0) (.lit (.int 1))) (.lit (.int 0))) (.cmp .Eq (.call 9 [(.idx (.var 0) (.lit (.int 0))), (.idx (.var 0) (.lit (.int 1)))] []) (.var 0)))]⟩
def F_law_is_move : Fn := ⟨1, 1, [.ifs (.bor (.nt (.bi .isinst [(.var 0), (.lit (.ty .tuple))])) (.cmp .NotEq (.bi .len [(.var 0)]) (.lit (.int 2)))) [.ret (.lit (.bl false))] [],
  .ret (.band (.call 10 [(.idx (.var 0) (.lit (.int 0)))] []) (.band (.call 10 [(.idx (.var 0) (.lit (.int 1)))] []) (.cmp .NotEq (.idx (.idx (.var 0) (.lit (.int 0))) (.lit (.int 0))) (.lit (.int 0)))))]⟩
def F_law_odd : Fn := ⟨1, 1, [.ret (.idx (.lst [(.lit (.bl true)), (.lit (.bl false)), (.lit .non), (.lit (.str "")), (.lit (.str "1")), (.lit (.int 0)), (.lit (.int 1)), (.lit (.int 2)), (.neg (.lit (.int 1))), (.tup []), (.tup [(.lit (.int 1)), (.lit (.int 1))]), (.lst [(.lit (.int 1)), (.lit (.int 1))]), (.tup [(.tup [(.lit (.int 1)), (.lit (.int 1))])]), (.bin .Pow (.lit (.int 10)) (.lit (.int 20)))]) (.call 6 [(.var 0), (.lit (.int 14))] []))]⟩
def F_fraction_of : Fn := ⟨2, 3, [.ifs (.cmp .Eq (.var 1) (.lit (.int 0))) [.raise (.lit .non)] [],
  .asg (.nm 2) (.call 0 [(.var 0), (.var 1)] []),
  .ifs (.cmp .Lt (.var 1) (.lit (.int 0))) [.asg (.nm 2) (.neg (.var 2))] [],
  .ret (.tup [(.bin .FloorDiv (.var 0) (.var 2)), (.bin .FloorDiv (.var 1) (.var 2))])]⟩
def F_plus_of : Fn := ⟨2, 2, [.ret (.call 15 [(.bin .Add (.bin .Mult (.idx (.var 0) (.lit (.int 0))) (.idx (.var 1) (.lit (.int 1)))) (.bin .Mult (.idx (.var 1) (.lit (.int 0))) (.idx (.var 0) (.lit (.int 1))))), (.bin .Mult (.idx (.var 0) (.lit (.int 1))) (.idx (.var 1) (.lit (.int 1))))] [])]⟩
def F_less_of : Fn := ⟨2, 2, [.ret (.call 15 [(.bin .Sub (.bin .Mult (.idx (.var 0) (.lit (.int 0))) (.idx (.var 1) (.lit (.int 1)))) (.bin .Mult (.idx (.var 1) (.lit (.int 0))) (.idx (.var 0) (.lit (.int 1))))), (.bin .Mult (.idx (.var 0) (.lit (.int 1))) (.idx (.var 1) (.lit (.int 1))))] [])]⟩
def F_times_of : Fn := ⟨2, 2, [.ret (.call 15 [(.bin .Mult (.idx (.var 0) (.lit (.int 0))) (.idx (.var 1) (.lit (.int 0)))), (.bin .Mult (.idx (.var 0) (.lit (.int 1))) (.idx (.var 1) (.lit (.int 1))))] [])]⟩
def F_over_of : Fn := ⟨2, 2, [.ifs (.cmp .Eq (.idx (.var 1) (.lit (.int 0))) (.lit (.int 0))) [.raise (.lit .non)] [],
  .ret (.call 15 [(.bin .Mult (.idx (.var 0) (.lit (.int 0))) (.idx (.var 1) (.lit (.int 1)))), (.bin .Mult (.idx (.var 0) (.lit (.int 1))) (.idx (.var 1) (.lit (.int 0))))] [])]⟩
def F_stretch_by : Fn := ⟨2, 2, [.ret (.call 18 [(.idx (.var 0) (.lit (.int 0))), (.var 1)] [])]⟩
def F_read_by : Fn := ⟨2, 2, [.ret (.call 16 [(.call 20 [(.var 0), (.var 1)] []), (.idx (.var 0) (.lit (.int 1)))] [])]⟩
def F_move_then : Fn := ⟨2, 2, [.ret (.tup [(.call 18 [(.idx (.var 1) (.lit (.int 0))), (.idx (.var 0) (.lit (.int 0)))] []), (.call 21 [(.var 1), (.idx (.var 0) (.lit (.int 1)))] [])])]⟩
def F_move_back : Fn := ⟨1, 3, [.asg (.tup [1, 2]) (.var 0),
  .ret (.tup [(.call 19 [(.tup [(.lit (.int 1)), (.lit (.int 1))]), (.var 1)] []), (.call 19 [(.call 17 [(.lit (.tup [(.int 0), (.int 1)])), (.var 2)] []), (.var 1)] [])])]⟩
def F_law_plus : Fn := ⟨2, 2, [.ret (.call 9 [(.bin .Add (.bin .Mult (.idx (.var 0) (.lit (.int 0))) (.idx (.var 1) (.lit (.int 1)))) (.bin .Mult (.idx (.var 1) (.lit (.int 0))) (.idx (.var 0) (.lit (.int 1))))), (.bin .Mult (.idx (.var 0) (.lit (.int 1))) (.idx (.var 1) (.lit (.int 1))))] [])]⟩
def F_law_times : Fn := ⟨2, 2, [.ret (.call 9 [(.bin .Mult (.idx (.var 0) (.lit (.int 0))) (.idx (.var 1) (.lit (.int 0)))), (.bin .Mult (.idx (.var 0) (.lit (.int 1))) (.idx (.var 1) (.lit (.int 1))))] [])]⟩
def F_law_led : Fn := ⟨2, 2, [.ret (.call 24 [(.call 25 [(.idx (.var 0) (.lit (.int 0))), (.var 1)] []), (.idx (.var 0) (.lit (.int 1)))] [])]⟩
def F_law_then : Fn := ⟨2, 2, [.ret (.tup [(.call 25 [(.idx (.var 1) (.lit (.int 0))), (.idx (.var 0) (.lit (.int 0)))] []), (.call 26 [(.var 1), (.idx (.var 0) (.lit (.int 1)))] [])])]⟩
def F_law_back : Fn := ⟨1, 2, [.asg (.nm 1) (.call 9 [(.idx (.idx (.var 0) (.lit (.int 0))) (.lit (.int 1))), (.idx (.idx (.var 0) (.lit (.int 0))) (.lit (.int 0)))] []),
  .ret (.tup [(.var 1), (.call 25 [(.var 1), (.tup [(.bin .Sub (.lit (.int 0)) (.idx (.idx (.var 0) (.lit (.int 1))) (.lit (.int 0)))), (.idx (.idx (.var 0) (.lit (.int 1))) (.lit (.int 1)))])] [])])]⟩
def F_law_fraction : Fn := ⟨2, 3, [.asg (.nm 2) (.idx (.lst [(.lit (.int 3)), (.lit (.int 20)), (.bin .Pow (.lit (.int 10)) (.lit (.int 11))), (.var 1)]) (.call 6 [(.var 0), (.lit (.int 4))] [])),
  .ret (.call 9 [(.bin .Sub (.call 6 [(.var 0), (.bin .Add (.bin .Mult (.lit (.int 2)) (.var 2)) (.lit (.int 1)))] []) (.var 2)), (.bin .Add (.lit (.int 1)) (.call 6 [(.var 0), (.var 2)] []))] [])]⟩
def F_law_move : Fn := ⟨1, 2, [.asg (.nm 1) (.call 29 [(.var 0), (.bin .Pow (.lit (.int 10)) (.lit (.int 59)))] []),
  .ifs (.cmp .Eq (.idx (.var 1) (.lit (.int 0))) (.lit (.int 0))) [.asg (.nm 1) (.tup [(.bin .Sub (.bin .Sub (.lit (.int 0)) (.lit (.int 1))) (.call 6 [(.var 0), (.lit (.int 3))] [])), (.lit (.int 1))])] [],
  .ret (.tup [(.var 1), (.call 29 [(.var 0), (.bin .Pow (.lit (.int 10)) (.lit (.int 59)))] [])])]⟩
def F_law_2 : Fn := ⟨1, 12, [.asg (.nm 1) (.call 4 [(.var 0)] []),
  .asg (.unl [2, 3, 4]) (.comp (.call 30 [(.var 1)] []) [11] true .range [(.lit (.int 3))] none [11]),
  .asg (.tup [5, 6]) (.tup [(.call 29 [(.var 1), (.bin .Pow (.lit (.int 10)) (.lit (.int 29)))] []), (.call 29 [(.var 1), (.bin .Pow (.lit (.int 10)) (.lit (.int 29)))] [])]),
  .fr [7] true .seq [(.lst [(.var 2), (.var 3), (.lit (.tup [(.tup [(.int 1), (.int 1)]), (.tup [(.int 0), (.int 1)])]))])] [.ifs (.nt (.call 7 [(.call 21 [(.var 7), (.var 5)] []), (.call 26 [(.var 7), (.var 5)] [])] [])) [.ret (.lit (.bl false))] [],
  .ifs (.nt (.call 7 [(.call 20 [(.var 7), (.var 5)] []), (.call 25 [(.idx (.var 7) (.lit (.int 0))), (.var 5)] [])] [])) [.ret (.lit (.bl false))] [],
  .ifs (.nt (.call 7 [(.call 23 [(.var 7)] []), (.call 28 [(.var 7)] [])] [])) [.ret (.lit (.bl false))] [],
  .ifs (.nt (.call 7 [(.lst [(.call 22 [(.var 7), (.call 23 [(.var 7)] [])] []), (.call 22 [(.call 23 [(.var 7)] []), (.var 7)] [])]), (.lst [(.lit (.tup [(.tup [(.int 1), (.int 1)]), (.tup [(.int 0), (.int 1)])])), (.lit (.tup [(.tup [(.int 1), (.int 1)]), (.tup [(.int 0), (.int 1)])]))])] [])) [.ret (.lit (.bl false))] []],
  .asg (.nm 8) (.call 22 [(.var 2), (.var 3)] []),
  .ifs (.bor (.nt (.call 7 [(.var 8), (.call 27 [(.var 2), (.var 3)] [])] [])) (.nt (.call 7 [(.lit (.tup [(.tup [(.int 1), (.int 1)]), (.tup [(.int 0), (.int 1)])])), (.tup [(.tup [(.lit (.int 1)), (.lit (.int 1))]), (.tup [(.lit (.int 0)), (.lit (.int 1))])])] []))) [.ret (.lit (.bl false))] [],
  .ifs (.nt (.call 7 [(.call 21 [(.var 8), (.var 5)] []), (.call 21 [(.var 3), (.call 21 [(.var 2), (.var 5)] [])] [])] [])) [.ret (.lit (.bl false))] [],
  .ifs (.bor (.cmp .NotEq (.call 22 [(.var 8), (.var 4)] []) (.call 22 [(.var 2), (.call 22 [(.var 3), (.var 4)] [])] [])) (.cmp .NotEq (.call 21 [(.lit (.tup [(.tup [(.int 1), (.int 1)]), (.tup [(.int 0), (.int 1)])])), (.var 5)] []) (.var 5))) [.ret (.lit (.bl false))] [],
  .asg (.nm 9) (.call 24 [(.var 5), (.tup [(.bin .Sub (.lit (.int 0)) (.idx (.var 6) (.lit (.int 0)))), (.idx (.var 6) (.lit (.int 1)))])] []),
  .asg (.nm 10) (.call 24 [(.call 21 [(.var 2), (.var 5)] []), (.call 25 [(.tup [(.bin .Sub (.lit (.int 0)) (.lit (.int 1))), (.lit (.int 1))]), (.call 21 [(.var 2), (.var 6)] [])] [])] []),
  .ret (.call 7 [(.call 20 [(.var 2), (.var 9)] []), (.var 10)] [])]⟩
end Sb

set_option linter.all false
namespace Sb
def tbl : Nat → Fn
  | 0 => F_common
  | 15 => F_fraction_of
  | 16 => F_plus_of
  | 17 => F_less_of
  | 18 => F_times_of
  | 19 => F_over_of
  | 20 => F_stretch_by
  | 21 => F_read_by
  | 22 => F_move_then
  | 23 => F_move_back
  | 4 => F_law_start
  | 6 => F_law_draw
  | 5 => F_law_mix
  | 7 => F_law_same
  | 9 => F_law_lowest
  | 24 => F_law_plus
  | 25 => F_law_times
  | 26 => F_law_led
  | 27 => F_law_then
  | 28 => F_law_back
  | 29 => F_law_fraction
  | 30 => F_law_move
  | 31 => F_law_2
  | _ => ⟨0, 0, []⟩
end Sb

set_option Elab.async false
set_option linter.all false
set_option maxRecDepth 100000
set_option maxHeartbeats 4000000
/-! the program's defs are the plain ones -/
namespace Sb
open PySem PySem.Spec L2
def topS (i : Nat) : Stmt := PySem.Challenge.pw_scalebook_k02_moves.main.body.getD i (.Pass ⟨0, 0, 0, 0⟩)
abbrev s_common : Stmt := topS 4
abbrev N_common : List Str := ["one", "other"]
theorem sc_common : FnScope N_common ["one", "other"] (defScope s_common) := ⟨rfl, rfl, rfl, by decide +kernel, rfl, by decide +kernel, by decide +kernel⟩
abbrev s_fraction_of : Stmt := topS 5
abbrev N_fraction_of : List Str := ["top", "bottom", "by"]
theorem sc_fraction_of : FnScope N_fraction_of ["top", "bottom"] (defScope s_fraction_of) := ⟨rfl, rfl, rfl, by decide +kernel, rfl, by decide +kernel, by decide +kernel⟩
abbrev s_plus_of : Stmt := topS 6
abbrev N_plus_of : List Str := ["one", "other"]
theorem sc_plus_of : FnScope N_plus_of ["one", "other"] (defScope s_plus_of) := ⟨rfl, rfl, rfl, by decide +kernel, rfl, by decide +kernel, by decide +kernel⟩
abbrev s_less_of : Stmt := topS 7
abbrev N_less_of : List Str := ["one", "other"]
theorem sc_less_of : FnScope N_less_of ["one", "other"] (defScope s_less_of) := ⟨rfl, rfl, rfl, by decide +kernel, rfl, by decide +kernel, by decide +kernel⟩
abbrev s_times_of : Stmt := topS 8
abbrev N_times_of : List Str := ["one", "other"]
theorem sc_times_of : FnScope N_times_of ["one", "other"] (defScope s_times_of) := ⟨rfl, rfl, rfl, by decide +kernel, rfl, by decide +kernel, by decide +kernel⟩
abbrev s_over_of : Stmt := topS 9
abbrev N_over_of : List Str := ["one", "other"]
theorem sc_over_of : FnScope N_over_of ["one", "other"] (defScope s_over_of) := ⟨rfl, rfl, rfl, by decide +kernel, rfl, by decide +kernel, by decide +kernel⟩
abbrev s_stretch_by : Stmt := topS 13
abbrev N_stretch_by : List Str := ["move", "value"]
theorem sc_stretch_by : FnScope N_stretch_by ["move", "value"] (defScope s_stretch_by) := ⟨rfl, rfl, rfl, by decide +kernel, rfl, by decide +kernel, by decide +kernel⟩
abbrev s_read_by : Stmt := topS 14
abbrev N_read_by : List Str := ["move", "value"]
theorem sc_read_by : FnScope N_read_by ["move", "value"] (defScope s_read_by) := ⟨rfl, rfl, rfl, by decide +kernel, rfl, by decide +kernel, by decide +kernel⟩
abbrev s_move_then : Stmt := topS 15
abbrev N_move_then : List Str := ["one", "other"]
theorem sc_move_then : FnScope N_move_then ["one", "other"] (defScope s_move_then) := ⟨rfl, rfl, rfl, by decide +kernel, rfl, by decide +kernel, by decide +kernel⟩
abbrev s_move_back : Stmt := topS 16
abbrev N_move_back : List Str := ["move", "a", "b"]
theorem sc_move_back : FnScope N_move_back ["move"] (defScope s_move_back) := ⟨rfl, rfl, rfl, by decide +kernel, rfl, by decide +kernel, by decide +kernel⟩
abbrev s__law_start : Stmt := topS 18
abbrev N__law_start : List Str := ["_law_script", "_law_great", "_law_cell"]
theorem sc__law_start : FnScope N__law_start ["_law_script"] (defScope s__law_start) := ⟨rfl, rfl, rfl, by decide +kernel, rfl, by decide +kernel, by decide +kernel⟩
abbrev s__law_draw : Stmt := topS 19
abbrev N__law_draw : List Str := ["_law_state", "_law_many", "_law_told", "_law_size"]
theorem sc__law_draw : FnScope N__law_draw ["_law_state", "_law_many"] (defScope s__law_draw) := ⟨rfl, rfl, rfl, by decide +kernel, rfl, by decide +kernel, by decide +kernel⟩
abbrev s__law_mix : Stmt := topS 20
abbrev N__law_mix : List Str := ["_law_state", "_law_count", "_law_cell", "_law_one"]
theorem sc__law_mix : FnScope N__law_mix ["_law_state"] (defScope s__law_mix) := ⟨rfl, rfl, rfl, by decide +kernel, rfl, by decide +kernel, by decide +kernel⟩
abbrev s__law_same : Stmt := topS 21
abbrev N__law_same : List Str := ["_law_found", "_law_want", "_law_one", "_law_other"]
theorem sc__law_same : FnScope N__law_same ["_law_found", "_law_want"] (defScope s__law_same) := ⟨rfl, rfl, rfl, by decide +kernel, rfl, by decide +kernel, by decide +kernel⟩
abbrev s__law_lowest : Stmt := topS 22
abbrev N__law_lowest : List Str := ["_law_top", "_law_bottom", "_law_one", "_law_other"]
theorem sc__law_lowest : FnScope N__law_lowest ["_law_top", "_law_bottom"] (defScope s__law_lowest) := ⟨rfl, rfl, rfl, by decide +kernel, rfl, by decide +kernel, by decide +kernel⟩
abbrev s__law_plus : Stmt := topS 23
abbrev N__law_plus : List Str := ["_law_one", "_law_other"]
theorem sc__law_plus : FnScope N__law_plus ["_law_one", "_law_other"] (defScope s__law_plus) := ⟨rfl, rfl, rfl, by decide +kernel, rfl, by decide +kernel, by decide +kernel⟩
abbrev s__law_times : Stmt := topS 24
abbrev N__law_times : List Str := ["_law_one", "_law_other"]
theorem sc__law_times : FnScope N__law_times ["_law_one", "_law_other"] (defScope s__law_times) := ⟨rfl, rfl, rfl, by decide +kernel, rfl, by decide +kernel, by decide +kernel⟩
abbrev s__law_led : Stmt := topS 25
abbrev N__law_led : List Str := ["_law_move_here", "_law_value"]
theorem sc__law_led : FnScope N__law_led ["_law_move_here", "_law_value"] (defScope s__law_led) := ⟨rfl, rfl, rfl, by decide +kernel, rfl, by decide +kernel, by decide +kernel⟩
abbrev s__law_then : Stmt := topS 26
abbrev N__law_then : List Str := ["_law_one", "_law_other"]
theorem sc__law_then : FnScope N__law_then ["_law_one", "_law_other"] (defScope s__law_then) := ⟨rfl, rfl, rfl, by decide +kernel, rfl, by decide +kernel, by decide +kernel⟩
abbrev s__law_back : Stmt := topS 27
abbrev N__law_back : List Str := ["_law_move_here", "_law_turned"]
theorem sc__law_back : FnScope N__law_back ["_law_move_here"] (defScope s__law_back) := ⟨rfl, rfl, rfl, by decide +kernel, rfl, by decide +kernel, by decide +kernel⟩
abbrev s__law_fraction : Stmt := topS 28
abbrev N__law_fraction : List Str := ["_law_state", "_law_most", "_law_size"]
theorem sc__law_fraction : FnScope N__law_fraction ["_law_state", "_law_most"] (defScope s__law_fraction) := ⟨rfl, rfl, rfl, by decide +kernel, rfl, by decide +kernel, by decide +kernel⟩
abbrev s__law_move : Stmt := topS 29
abbrev N__law_move : List Str := ["_law_state", "_law_a"]
theorem sc__law_move : FnScope N__law_move ["_law_state"] (defScope s__law_move) := ⟨rfl, rfl, rfl, by decide +kernel, rfl, by decide +kernel, by decide +kernel⟩
abbrev s_law : Stmt := topS 30
abbrev N_law : List Str := ["_law_script", "_law_state", "_law_one", "_law_other", "_law_third", "_law_value", "_law_more", "_law_move_here", "_law_both", "_law_apart", "_law_gap", "_law_k"]
theorem sc_law : FnScope N_law ["_law_script"] (defScope s_law) := ⟨rfl, rfl, rfl, by decide +kernel, rfl, by decide +kernel, by decide +kernel⟩
structure Fcts (K : PySem.W.Frag) (mg : Str → Option Value) : Prop where
  fr_abs : mg "abs" = none
  fr_all : mg "all" = none
  fr_bool : mg "bool" = none
  fr_int : mg "int" = none
  fr_isinstance : mg "isinstance" = none
  fr_len : mg "len" = none
  fr_list : mg "list" = none
  fr_range : mg "range" = none
  fr_str : mg "str" = none
  fr_tuple : mg "tuple" = none
  fr_zip : mg "zip" = none
  co_NOUGHT : ConI K mg "NOUGHT" (.tup [(.int 0), (.int 1)])
  co_SAME : ConI K mg "SAME" (.tup [(.tup [(.int 1), (.int 1)]), (.tup [(.int 0), (.int 1)])])
structure Fns (P : Program) (w : World) (K : PySem.W.Frag) (mg : Str → Option Value) (base : Heap) (k : Nat) : Prop where
  g_common : FnI P w K mg base (call tbl k) k "common" 0 2 []
  g_fraction_of : FnI P w K mg base (call tbl k) k "fraction_of" 15 2 []
  g_plus_of : FnI P w K mg base (call tbl k) k "plus_of" 16 2 []
  g_less_of : FnI P w K mg base (call tbl k) k "less_of" 17 2 []
  g_times_of : FnI P w K mg base (call tbl k) k "times_of" 18 2 []
  g_over_of : FnI P w K mg base (call tbl k) k "over_of" 19 2 []
  g_stretch_by : FnI P w K mg base (call tbl k) k "stretch_by" 20 2 []
  g_read_by : FnI P w K mg base (call tbl k) k "read_by" 21 2 []
  g_move_then : FnI P w K mg base (call tbl k) k "move_then" 22 2 []
  g_move_back : FnI P w K mg base (call tbl k) k "move_back" 23 1 []
  g__law_start : FnI P w K mg base (call tbl k) k "_law_start" 4 1 []
  g__law_draw : FnI P w K mg base (call tbl k) k "_law_draw" 6 2 []
  g__law_mix : FnI P w K mg base (call tbl k) k "_law_mix" 5 1 []
  g__law_same : FnI P w K mg base (call tbl k) k "_law_same" 7 2 []
  g__law_lowest : FnI P w K mg base (call tbl k) k "_law_lowest" 9 2 []
  g__law_plus : FnI P w K mg base (call tbl k) k "_law_plus" 24 2 []
  g__law_times : FnI P w K mg base (call tbl k) k "_law_times" 25 2 []
  g__law_led : FnI P w K mg base (call tbl k) k "_law_led" 26 2 []
  g__law_then : FnI P w K mg base (call tbl k) k "_law_then" 27 2 []
  g__law_back : FnI P w K mg base (call tbl k) k "_law_back" 28 1 []
  g__law_fraction : FnI P w K mg base (call tbl k) k "_law_fraction" 29 2 []
  g__law_move : FnI P w K mg base (call tbl k) k "_law_move" 30 1 []
  g_law : FnI P w K mg base (call tbl k) k "law" 31 1 []
section
variable {P : Program} {w : World} {K : PySem.W.Frag} {mg : Str → Option Value} {base : Heap} {k : Nat} {f : Addr} {cdv : Value} {A : Around} {outer : List PySem.Env} {s : Shared} {H : Hp} {E : XK}
theorem jb_common (T : Fcts K mg) (G : Fns P w K mg base k) (c : Cq (cxOf (L2.CX P w) P w K mg base N_common "common" (defScope s_common) f cdv A outer s H E) (fun c d _ H => E c d H) k) :
    JSs (cxOf (L2.CX P w) P w K mg base N_common "common" (defScope s_common) f cdv A outer s H E) (fun c d _ H => E c d H) (call tbl k) (defBody s_common) F_common.body :=
  (jss_cons (js_par (i := 0) (j := 1) c.calm c.nd (ja_cons (je_bi .abs (fun _ => bi_abs) T.fr_abs (by decide +kernel) (ja_cons (je_var 0) ja_nil)) (ja_cons (je_bi .abs (fun _ => bi_abs) T.fr_abs (by decide +kernel) (ja_cons (je_var 1) ja_nil)) ja_nil)))
  (jss_cons (js_while0 c.po (jt_cmp c.hr.units (je_var 1) je_int) (jss_cons (js_par (i := 0) (j := 1) c.calm c.nd (ja_cons (je_var 1) (ja_cons (je_bin (je_var 0) (je_var 1)) ja_nil)))
  jss_nil))
  (jss_cons (js_ret (je_var 0))
  jss_nil)))
theorem jb_fraction_of (T : Fcts K mg) (G : Fns P w K mg base k) (c : Cq (cxOf (L2.CX P w) P w K mg base N_fraction_of "fraction_of" (defScope s_fraction_of) f cdv A outer s H E) (fun c d _ H => E c d H) k) :
    JSs (cxOf (L2.CX P w) P w K mg base N_fraction_of "fraction_of" (defScope s_fraction_of) f cdv A outer s H E) (fun c d _ H => E c d H) (call tbl k) (defBody s_fraction_of) F_fraction_of.body :=
  (jss_cons (js_if (jt_cmp c.hr.units (je_var 1) je_int) (jss_cons js_never
  jss_nil) jss_nil)
  (jss_cons (js_set (i := 2) c.nd (je_call G.g_common c.hr c.tk (ja_cons (je_var 0) (ja_cons (je_var 1) ja_nil))))
  (jss_cons (js_if (jt_cmp c.hr.units (je_var 1) je_int) (jss_cons (js_set (i := 2) c.nd (je_neg (je_var 2)))
  jss_nil) jss_nil)
  (jss_cons (js_ret (je_tup (ja_cons (je_bin (je_var 0) (je_var 2)) (ja_cons (je_bin (je_var 1) (je_var 2)) ja_nil))))
  jss_nil))))
theorem jb_plus_of (T : Fcts K mg) (G : Fns P w K mg base k) (c : Cq (cxOf (L2.CX P w) P w K mg base N_plus_of "plus_of" (defScope s_plus_of) f cdv A outer s H E) (fun c d _ H => E c d H) k) :
    JSs (cxOf (L2.CX P w) P w K mg base N_plus_of "plus_of" (defScope s_plus_of) f cdv A outer s H E) (fun c d _ H => E c d H) (call tbl k) (defBody s_plus_of) F_plus_of.body :=
  (jss_cons (js_ret (je_call G.g_fraction_of c.hr c.tk (ja_cons (je_bin (je_bin (je_idx (je_var 0) je_int) (je_idx (je_var 1) je_int)) (je_bin (je_idx (je_var 1) je_int) (je_idx (je_var 0) je_int))) (ja_cons (je_bin (je_idx (je_var 0) je_int) (je_idx (je_var 1) je_int)) ja_nil))))
  jss_nil)
theorem jb_less_of (T : Fcts K mg) (G : Fns P w K mg base k) (c : Cq (cxOf (L2.CX P w) P w K mg base N_less_of "less_of" (defScope s_less_of) f cdv A outer s H E) (fun c d _ H => E c d H) k) :
    JSs (cxOf (L2.CX P w) P w K mg base N_less_of "less_of" (defScope s_less_of) f cdv A outer s H E) (fun c d _ H => E c d H) (call tbl k) (defBody s_less_of) F_less_of.body :=
  (jss_cons (js_ret (je_call G.g_fraction_of c.hr c.tk (ja_cons (je_bin (je_bin (je_idx (je_var 0) je_int) (je_idx (je_var 1) je_int)) (je_bin (je_idx (je_var 1) je_int) (je_idx (je_var 0) je_int))) (ja_cons (je_bin (je_idx (je_var 0) je_int) (je_idx (je_var 1) je_int)) ja_nil))))
  jss_nil)
theorem jb_times_of (T : Fcts K mg) (G : Fns P w K mg base k) (c : Cq (cxOf (L2.CX P w) P w K mg base N_times_of "times_of" (defScope s_times_of) f cdv A outer s H E) (fun c d _ H => E c d H) k) :
    JSs (cxOf (L2.CX P w) P w K mg base N_times_of "times_of" (defScope s_times_of) f cdv A outer s H E) (fun c d _ H => E c d H) (call tbl k) (defBody s_times_of) F_times_of.body :=
  (jss_cons (js_ret (je_call G.g_fraction_of c.hr c.tk (ja_cons (je_bin (je_idx (je_var 0) je_int) (je_idx (je_var 1) je_int)) (ja_cons (je_bin (je_idx (je_var 0) je_int) (je_idx (je_var 1) je_int)) ja_nil))))
  jss_nil)
theorem jb_over_of (T : Fcts K mg) (G : Fns P w K mg base k) (c : Cq (cxOf (L2.CX P w) P w K mg base N_over_of "over_of" (defScope s_over_of) f cdv A outer s H E) (fun c d _ H => E c d H) k) :
    JSs (cxOf (L2.CX P w) P w K mg base N_over_of "over_of" (defScope s_over_of) f cdv A outer s H E) (fun c d _ H => E c d H) (call tbl k) (defBody s_over_of) F_over_of.body :=
  (jss_cons (js_if (jt_cmp c.hr.units (je_idx (je_var 1) je_int) je_int) (jss_cons js_never
  jss_nil) jss_nil)
  (jss_cons (js_ret (je_call G.g_fraction_of c.hr c.tk (ja_cons (je_bin (je_idx (je_var 0) je_int) (je_idx (je_var 1) je_int)) (ja_cons (je_bin (je_idx (je_var 0) je_int) (je_idx (je_var 1) je_int)) ja_nil))))
  jss_nil))
theorem jb_stretch_by (T : Fcts K mg) (G : Fns P w K mg base k) (c : Cq (cxOf (L2.CX P w) P w K mg base N_stretch_by "stretch_by" (defScope s_stretch_by) f cdv A outer s H E) (fun c d _ H => E c d H) k) :
    JSs (cxOf (L2.CX P w) P w K mg base N_stretch_by "stretch_by" (defScope s_stretch_by) f cdv A outer s H E) (fun c d _ H => E c d H) (call tbl k) (defBody s_stretch_by) F_stretch_by.body :=
  (jss_cons (js_ret (je_call G.g_times_of c.hr c.tk (ja_cons (je_idx (je_var 0) je_int) (ja_cons (je_var 1) ja_nil))))
  jss_nil)
theorem jb_read_by (T : Fcts K mg) (G : Fns P w K mg base k) (c : Cq (cxOf (L2.CX P w) P w K mg base N_read_by "read_by" (defScope s_read_by) f cdv A outer s H E) (fun c d _ H => E c d H) k) :
    JSs (cxOf (L2.CX P w) P w K mg base N_read_by "read_by" (defScope s_read_by) f cdv A outer s H E) (fun c d _ H => E c d H) (call tbl k) (defBody s_read_by) F_read_by.body :=
  (jss_cons (js_ret (je_call G.g_plus_of c.hr c.tk (ja_cons (je_call G.g_stretch_by c.hr c.tk (ja_cons (je_var 0) (ja_cons (je_var 1) ja_nil))) (ja_cons (je_idx (je_var 0) je_int) ja_nil))))
  jss_nil)
theorem jb_move_then (T : Fcts K mg) (G : Fns P w K mg base k) (c : Cq (cxOf (L2.CX P w) P w K mg base N_move_then "move_then" (defScope s_move_then) f cdv A outer s H E) (fun c d _ H => E c d H) k) :
    JSs (cxOf (L2.CX P w) P w K mg base N_move_then "move_then" (defScope s_move_then) f cdv A outer s H E) (fun c d _ H => E c d H) (call tbl k) (defBody s_move_then) F_move_then.body :=
  (jss_cons (js_ret (je_tup (ja_cons (je_call G.g_times_of c.hr c.tk (ja_cons (je_idx (je_var 1) je_int) (ja_cons (je_idx (je_var 0) je_int) ja_nil))) (ja_cons (je_call G.g_read_by c.hr c.tk (ja_cons (je_var 1) (ja_cons (je_idx (je_var 0) je_int) ja_nil))) ja_nil))))
  jss_nil)
theorem jb_move_back (T : Fcts K mg) (G : Fns P w K mg base k) (c : Cq (cxOf (L2.CX P w) P w K mg base N_move_back "move_back" (defScope s_move_back) f cdv A outer s H E) (fun c d _ H => E c d H) k) :
    JSs (cxOf (L2.CX P w) P w K mg base N_move_back "move_back" (defScope s_move_back) f cdv A outer s H E) (fun c d _ H => E c d H) (call tbl k) (defBody s_move_back) F_move_back.body :=
  (jss_cons (js_tup (is := [1, 2]) (je_var 0) (tg_tup' c.calm (tgs_cons (i := 1) c.nd (tgs_cons (i := 2) c.nd tgs_nil))))
  (jss_cons (js_ret (je_tup (ja_cons (je_call G.g_over_of c.hr c.tk (ja_cons (je_tup (ja_cons je_int (ja_cons je_int ja_nil))) (ja_cons (je_var 1) ja_nil))) (ja_cons (je_call G.g_over_of c.hr c.tk (ja_cons (je_call G.g_less_of c.hr c.tk (ja_cons (je_con T.co_NOUGHT) (ja_cons (je_var 2) ja_nil))) (ja_cons (je_var 1) ja_nil))) ja_nil))))
  jss_nil))
theorem jb__law_start (T : Fcts K mg) (G : Fns P w K mg base k) (c : Cq (cxOf (L2.CX P w) P w K mg base N__law_start "_law_start" (defScope s__law_start) f cdv A outer s H E) (fun c d _ H => E c d H) k) :
    JSs (cxOf (L2.CX P w) P w K mg base N__law_start "_law_start" (defScope s__law_start) f cdv A outer s H E) (fun c d _ H => E c d H) (call tbl k) (defBody s__law_start) F_law_start.body :=
  (jss_cons (js_setC (i := 1) (own := [("_law_cell", 2)]) (is := [2]) (one := true) c.calm c.nd (ji_seq (je_var 0)) (blkOk_by (own := [("_law_cell", 2)]) (N := N__law_start) (sc := defScope s__law_start) (by decide +kernel)) (fun sB HB CB clB fpB => (tg_one (c.blk sB HB _ _ fpB).nd)) (fun sB HB CB clB fpB => cd_some (jt_cmp (c.blk sB HB _ _ fpB).hr.units (je_var 2) (je_bin je_int je_int))) (fun sB HB CB clB fpB => (je_var 2)))
  (jss_cons (js_ret (je_lst (ja_cons (je_var 1) (ja_cons je_int (ja_cons (je_comp (own := [("_law_cell", 2)]) (is := [2]) (one := true) c.calm c.nd (ji_seq (je_var 0)) (blkOk_by (own := [("_law_cell", 2)]) (N := N__law_start) (sc := defScope s__law_start) (by decide +kernel)) (fun sB HB CB clB fpB => (tg_one (c.blk sB HB _ _ fpB).nd)) (fun sB HB CB clB fpB => cd_none) (fun sB HB CB clB fpB => (je_bin (je_var 2) je_int))) (ja_cons je_int ja_nil))))))
  jss_nil))
theorem jb__law_draw (T : Fcts K mg) (G : Fns P w K mg base k) (c : Cq (cxOf (L2.CX P w) P w K mg base N__law_draw "_law_draw" (defScope s__law_draw) f cdv A outer s H E) (fun c d _ H => E c d H) k) :
    JSs (cxOf (L2.CX P w) P w K mg base N__law_draw "_law_draw" (defScope s__law_draw) f cdv A outer s H E) (fun c d _ H => E c d H) (call tbl k) (defBody s__law_draw) F_law_draw.body :=
  (jss_cons (js_if (jt_bool (jw_and (jt_cmp c.hr.units (je_idx (je_var 0) je_int) je_int) (jw_and1 (jt_val (je_idx (je_var 0) je_int))))) (jss_cons (js_sub (je_mth .popAt PySem.F.plainAttrs_list PySem.F.slot_list_pop PySem.F.type_list_pop (fun _ => mt_popAt_ok) (je_idx (je_var 0) je_int) (ja_cons je_int ja_nil)) (je_var 0) je_int)
  jss_nil) jss_nil)
  (jss_cons (js_if (jt_cmp c.hr.units (je_idx (je_var 0) je_int) je_int) (jss_cons (js_set (i := 2) c.nd (je_bin (je_idx (je_var 0) je_int) (je_var 1)))
  (jss_cons (js_sub (je_bin (je_idx (je_var 0) je_int) (je_var 1)) (je_var 0) je_int)
  (jss_cons (js_ret (je_var 2))
  jss_nil))) jss_nil)
  (jss_cons (js_set (i := 2) c.nd je_int)
  (jss_cons (js_set (i := 3) c.nd je_int)
  (jss_cons (js_while0 c.po (jt_cmp c.hr.units (je_var 3) (je_var 1)) (jss_cons (js_set (i := 2) c.nd (je_bin (je_bin (je_var 2) je_int) (je_call G.g__law_mix c.hr c.tk (ja_cons (je_var 0) ja_nil))))
  (jss_cons (js_set (i := 3) c.nd (je_bin (je_var 3) je_int))
  jss_nil)))
  (jss_cons (js_ret (je_bin (je_var 2) (je_var 1)))
  jss_nil))))))
theorem jb__law_mix (T : Fcts K mg) (G : Fns P w K mg base k) (c : Cq (cxOf (L2.CX P w) P w K mg base N__law_mix "_law_mix" (defScope s__law_mix) f cdv A outer s H E) (fun c d _ H => E c d H) k) :
    JSs (cxOf (L2.CX P w) P w K mg base N__law_mix "_law_mix" (defScope s__law_mix) f cdv A outer s H E) (fun c d _ H => E c d H) (call tbl k) (defBody s__law_mix) F_law_mix.body :=
  (jss_cons (js_augs (je_var 0) je_int je_int)
  (jss_cons (js_set (i := 1) c.nd (je_idx (je_var 0) je_int))
  (jss_cons (js_set (i := 2) c.nd je_int)
  (jss_cons (js_if (jt_val (je_idx (je_var 0) je_int)) (jss_cons (js_set (i := 2) c.nd (je_idx (je_idx (je_var 0) je_int) (je_bin (je_var 1) (je_bi .len (fun _ => bi_len) T.fr_len (by decide +kernel) (ja_cons (je_idx (je_var 0) je_int) ja_nil)))))
  jss_nil) jss_nil)
  (jss_cons (js_set (i := 3) c.nd (je_bin (je_bin (je_bin (je_bin (je_bin (je_var 2) (je_bin (je_bin je_int (je_var 1)) (je_var 1))) (je_bin je_int (je_var 1))) je_int) je_int) je_int))
  (jss_cons (js_ret (je_bin (je_bin (je_bin (je_var 3) je_int) (je_bin je_int (je_var 1))) je_int))
  jss_nil))))))
theorem jb__law_same (T : Fcts K mg) (G : Fns P w K mg base k) (c : Cq (cxOf (L2.CX P w) P w K mg base N__law_same "_law_same" (defScope s__law_same) f cdv A outer s H E) (fun c d _ H => E c d H) k) :
    JSs (cxOf (L2.CX P w) P w K mg base N__law_same "_law_same" (defScope s__law_same) f cdv A outer s H E) (fun c d _ H => E c d H) (call tbl k) (defBody s__law_same) F_law_same.body :=
  (jss_cons (js_if (jt_val (je_bi .isinst (fun _ => bi_isinst) T.fr_isinstance (by decide +kernel) (ja_cons (je_var 1) (ja_cons (je_tup (ja_cons (je_ty .tuple T.fr_tuple (by decide +kernel)) (ja_cons (je_ty .list T.fr_list (by decide +kernel)) ja_nil))) ja_nil)))) (jss_cons (js_if (jt_cmp c.hr.units (je_bi .isinst (fun _ => bi_isinst) T.fr_isinstance (by decide +kernel) (ja_cons (je_var 0) (ja_cons (je_ty .tuple T.fr_tuple (by decide +kernel)) ja_nil))) (je_bi .isinst (fun _ => bi_isinst) T.fr_isinstance (by decide +kernel) (ja_cons (je_var 1) (ja_cons (je_ty .tuple T.fr_tuple (by decide +kernel)) ja_nil)))) (jss_cons (js_ret je_bl)
  jss_nil) jss_nil)
  (jss_cons (js_if (jt_bool (jw_or (jt_cmp c.hr.units (je_bi .isinst (fun _ => bi_isinst) T.fr_isinstance (by decide +kernel) (ja_cons (je_var 0) (ja_cons (je_ty .list T.fr_list (by decide +kernel)) ja_nil))) (je_bi .isinst (fun _ => bi_isinst) T.fr_isinstance (by decide +kernel) (ja_cons (je_var 1) (ja_cons (je_ty .list T.fr_list (by decide +kernel)) ja_nil)))) (jw_or1 (jt_cmp c.hr.units (je_bi .len (fun _ => bi_len) T.fr_len (by decide +kernel) (ja_cons (je_var 0) ja_nil)) (je_bi .len (fun _ => bi_len) T.fr_len (by decide +kernel) (ja_cons (je_var 1) ja_nil)))))) (jss_cons (js_ret je_bl)
  jss_nil) jss_nil)
  (jss_cons (js_ret (je_bi .all (fun _ => (bi_all c.calm)) T.fr_all (by decide +kernel) (ja_cons (je_comp (own := [("_law_one", 2), ("_law_other", 3)]) (is := [2, 3]) (one := false) c.calm c.nd (ji_zip T.fr_zip (ja_cons (je_var 0) (ja_cons (je_var 1) ja_nil))) (blkOk_by (own := [("_law_one", 2), ("_law_other", 3)]) (N := N__law_same) (sc := defScope s__law_same) (by decide +kernel)) (fun sB HB CB clB fpB => (tg_tup (c.blk sB HB _ _ fpB).calm (tgs_cons (i := 2) (c.blk sB HB _ _ fpB).nd (tgs_cons (i := 3) (c.blk sB HB _ _ fpB).nd tgs_nil)))) (fun sB HB CB clB fpB => cd_none) (fun sB HB CB clB fpB => (je_call G.g__law_same (c.blk sB HB _ _ fpB).hr (c.blk sB HB _ _ fpB).tk (ja_cons (je_var 2) (ja_cons (je_var 3) ja_nil))))) ja_nil)))
  jss_nil))) jss_nil)
  (jss_cons (js_if (jt_cmp c.hr.units (je_var 1) je_non) (jss_cons (js_ret (je_cmp c.hr.units (je_var 0) je_non))
  jss_nil) jss_nil)
  (jss_cons (js_if (jt_val (je_bi .isinst (fun _ => bi_isinst) T.fr_isinstance (by decide +kernel) (ja_cons (je_var 1) (ja_cons (je_ty .str T.fr_str (by decide +kernel)) ja_nil)))) (jss_cons (js_ret (je_and (je_bi .isinst (fun _ => bi_isinst) T.fr_isinstance (by decide +kernel) (ja_cons (je_var 0) (ja_cons (je_ty .str T.fr_str (by decide +kernel)) ja_nil))) (je_one (je_cmp c.hr.units (je_var 0) (je_var 1)))))
  jss_nil) jss_nil)
  (jss_cons (js_ret (je_and (je_bi .isinst (fun _ => bi_isinst) T.fr_isinstance (by decide +kernel) (ja_cons (je_var 0) (ja_cons (je_ty .int T.fr_int (by decide +kernel)) ja_nil))) (je_and (je_cmp c.hr.units (je_bi .isinst (fun _ => bi_isinst) T.fr_isinstance (by decide +kernel) (ja_cons (je_var 0) (ja_cons (je_ty .bool T.fr_bool (by decide +kernel)) ja_nil))) (je_bi .isinst (fun _ => bi_isinst) T.fr_isinstance (by decide +kernel) (ja_cons (je_var 1) (ja_cons (je_ty .bool T.fr_bool (by decide +kernel)) ja_nil)))) (je_one (je_cmp c.hr.units (je_var 0) (je_var 1))))))
  jss_nil))))
theorem jb__law_lowest (T : Fcts K mg) (G : Fns P w K mg base k) (c : Cq (cxOf (L2.CX P w) P w K mg base N__law_lowest "_law_lowest" (defScope s__law_lowest) f cdv A outer s H E) (fun c d _ H => E c d H) k) :
    JSs (cxOf (L2.CX P w) P w K mg base N__law_lowest "_law_lowest" (defScope s__law_lowest) f cdv A outer s H E) (fun c d _ H => E c d H) (call tbl k) (defBody s__law_lowest) F_law_lowest.body :=
  (jss_cons (js_set (i := 2) c.nd (je_bi .abs (fun _ => bi_abs) T.fr_abs (by decide +kernel) (ja_cons (je_var 0) ja_nil)))
  (jss_cons (js_set (i := 3) c.nd (je_bi .abs (fun _ => bi_abs) T.fr_abs (by decide +kernel) (ja_cons (je_var 1) ja_nil)))
  (jss_cons (js_while0 c.po (jt_cmp c.hr.units (je_var 3) je_int) (jss_cons (js_par (i := 2) (j := 3) c.calm c.nd (ja_cons (je_var 3) (ja_cons (je_bin (je_var 2) (je_var 3)) ja_nil)))
  jss_nil))
  (jss_cons (js_if (jt_cmp c.hr.units (je_var 1) je_int) (jss_cons (js_set (i := 2) c.nd (je_bin je_int (je_var 2)))
  jss_nil) jss_nil)
  (jss_cons (js_ret (je_tup (ja_cons (je_bin (je_var 0) (je_var 2)) (ja_cons (je_bin (je_var 1) (je_var 2)) ja_nil))))
  jss_nil)))))
theorem jb__law_plus (T : Fcts K mg) (G : Fns P w K mg base k) (c : Cq (cxOf (L2.CX P w) P w K mg base N__law_plus "_law_plus" (defScope s__law_plus) f cdv A outer s H E) (fun c d _ H => E c d H) k) :
    JSs (cxOf (L2.CX P w) P w K mg base N__law_plus "_law_plus" (defScope s__law_plus) f cdv A outer s H E) (fun c d _ H => E c d H) (call tbl k) (defBody s__law_plus) F_law_plus.body :=
  (jss_cons (js_ret (je_call G.g__law_lowest c.hr c.tk (ja_cons (je_bin (je_bin (je_idx (je_var 0) je_int) (je_idx (je_var 1) je_int)) (je_bin (je_idx (je_var 1) je_int) (je_idx (je_var 0) je_int))) (ja_cons (je_bin (je_idx (je_var 0) je_int) (je_idx (je_var 1) je_int)) ja_nil))))
  jss_nil)
theorem jb__law_times (T : Fcts K mg) (G : Fns P w K mg base k) (c : Cq (cxOf (L2.CX P w) P w K mg base N__law_times "_law_times" (defScope s__law_times) f cdv A outer s H E) (fun c d _ H => E c d H) k) :
    JSs (cxOf (L2.CX P w) P w K mg base N__law_times "_law_times" (defScope s__law_times) f cdv A outer s H E) (fun c d _ H => E c d H) (call tbl k) (defBody s__law_times) F_law_times.body :=
  (jss_cons (js_ret (je_call G.g__law_lowest c.hr c.tk (ja_cons (je_bin (je_idx (je_var 0) je_int) (je_idx (je_var 1) je_int)) (ja_cons (je_bin (je_idx (je_var 0) je_int) (je_idx (je_var 1) je_int)) ja_nil))))
  jss_nil)
theorem jb__law_led (T : Fcts K mg) (G : Fns P w K mg base k) (c : Cq (cxOf (L2.CX P w) P w K mg base N__law_led "_law_led" (defScope s__law_led) f cdv A outer s H E) (fun c d _ H => E c d H) k) :
    JSs (cxOf (L2.CX P w) P w K mg base N__law_led "_law_led" (defScope s__law_led) f cdv A outer s H E) (fun c d _ H => E c d H) (call tbl k) (defBody s__law_led) F_law_led.body :=
  (jss_cons (js_ret (je_call G.g__law_plus c.hr c.tk (ja_cons (je_call G.g__law_times c.hr c.tk (ja_cons (je_idx (je_var 0) je_int) (ja_cons (je_var 1) ja_nil))) (ja_cons (je_idx (je_var 0) je_int) ja_nil))))
  jss_nil)
theorem jb__law_then (T : Fcts K mg) (G : Fns P w K mg base k) (c : Cq (cxOf (L2.CX P w) P w K mg base N__law_then "_law_then" (defScope s__law_then) f cdv A outer s H E) (fun c d _ H => E c d H) k) :
    JSs (cxOf (L2.CX P w) P w K mg base N__law_then "_law_then" (defScope s__law_then) f cdv A outer s H E) (fun c d _ H => E c d H) (call tbl k) (defBody s__law_then) F_law_then.body :=
  (jss_cons (js_ret (je_tup (ja_cons (je_call G.g__law_times c.hr c.tk (ja_cons (je_idx (je_var 1) je_int) (ja_cons (je_idx (je_var 0) je_int) ja_nil))) (ja_cons (je_call G.g__law_led c.hr c.tk (ja_cons (je_var 1) (ja_cons (je_idx (je_var 0) je_int) ja_nil))) ja_nil))))
  jss_nil)
theorem jb__law_back (T : Fcts K mg) (G : Fns P w K mg base k) (c : Cq (cxOf (L2.CX P w) P w K mg base N__law_back "_law_back" (defScope s__law_back) f cdv A outer s H E) (fun c d _ H => E c d H) k) :
    JSs (cxOf (L2.CX P w) P w K mg base N__law_back "_law_back" (defScope s__law_back) f cdv A outer s H E) (fun c d _ H => E c d H) (call tbl k) (defBody s__law_back) F_law_back.body :=
  (jss_cons (js_set (i := 1) c.nd (je_call G.g__law_lowest c.hr c.tk (ja_cons (je_idx (je_idx (je_var 0) je_int) je_int) (ja_cons (je_idx (je_idx (je_var 0) je_int) je_int) ja_nil))))
  (jss_cons (js_ret (je_tup (ja_cons (je_var 1) (ja_cons (je_call G.g__law_times c.hr c.tk (ja_cons (je_var 1) (ja_cons (je_tup (ja_cons (je_bin je_int (je_idx (je_idx (je_var 0) je_int) je_int)) (ja_cons (je_idx (je_idx (je_var 0) je_int) je_int) ja_nil))) ja_nil))) ja_nil))))
  jss_nil))
theorem jb__law_fraction (T : Fcts K mg) (G : Fns P w K mg base k) (c : Cq (cxOf (L2.CX P w) P w K mg base N__law_fraction "_law_fraction" (defScope s__law_fraction) f cdv A outer s H E) (fun c d _ H => E c d H) k) :
    JSs (cxOf (L2.CX P w) P w K mg base N__law_fraction "_law_fraction" (defScope s__law_fraction) f cdv A outer s H E) (fun c d _ H => E c d H) (call tbl k) (defBody s__law_fraction) F_law_fraction.body :=
  (jss_cons (js_set (i := 2) c.nd (je_idx (je_lst (ja_cons je_int (ja_cons je_int (ja_cons (je_bin je_int je_int) (ja_cons (je_var 1) ja_nil))))) (je_call G.g__law_draw c.hr c.tk (ja_cons (je_var 0) (ja_cons je_int ja_nil)))))
  (jss_cons (js_ret (je_call G.g__law_lowest c.hr c.tk (ja_cons (je_bin (je_call G.g__law_draw c.hr c.tk (ja_cons (je_var 0) (ja_cons (je_bin (je_bin je_int (je_var 2)) je_int) ja_nil))) (je_var 2)) (ja_cons (je_bin je_int (je_call G.g__law_draw c.hr c.tk (ja_cons (je_var 0) (ja_cons (je_var 2) ja_nil)))) ja_nil))))
  jss_nil))
theorem jb__law_move (T : Fcts K mg) (G : Fns P w K mg base k) (c : Cq (cxOf (L2.CX P w) P w K mg base N__law_move "_law_move" (defScope s__law_move) f cdv A outer s H E) (fun c d _ H => E c d H) k) :
    JSs (cxOf (L2.CX P w) P w K mg base N__law_move "_law_move" (defScope s__law_move) f cdv A outer s H E) (fun c d _ H => E c d H) (call tbl k) (defBody s__law_move) F_law_move.body :=
  (jss_cons (js_set (i := 1) c.nd (je_call G.g__law_fraction c.hr c.tk (ja_cons (je_var 0) (ja_cons (je_bin je_int je_int) ja_nil))))
  (jss_cons (js_if (jt_cmp c.hr.units (je_idx (je_var 1) je_int) je_int) (jss_cons (js_set (i := 1) c.nd (je_tup (ja_cons (je_bin (je_bin je_int je_int) (je_call G.g__law_draw c.hr c.tk (ja_cons (je_var 0) (ja_cons je_int ja_nil)))) (ja_cons je_int ja_nil))))
  jss_nil) jss_nil)
  (jss_cons (js_ret (je_tup (ja_cons (je_var 1) (ja_cons (je_call G.g__law_fraction c.hr c.tk (ja_cons (je_var 0) (ja_cons (je_bin je_int je_int) ja_nil))) ja_nil))))
  jss_nil)))
theorem jb_law (T : Fcts K mg) (G : Fns P w K mg base k) (c : Cq (cxOf (L2.CX P w) P w K mg base N_law "law" (defScope s_law) f cdv A outer s H E) (fun c d _ H => E c d H) k) :
    JSs (cxOf (L2.CX P w) P w K mg base N_law "law" (defScope s_law) f cdv A outer s H E) (fun c d _ H => E c d H) (call tbl k) (defBody s_law) F_law_2.body :=
  (jss_cons (js_set (i := 1) c.nd (je_call G.g__law_start c.hr c.tk (ja_cons (je_var 0) ja_nil)))
  (jss_cons (js_unl (is := [2, 3, 4]) (je_comp (own := [("_law_k", 11)]) (is := [11]) (one := true) c.calm c.nd (ji_range T.fr_range (ja_cons je_int ja_nil)) (blkOk_by (own := [("_law_k", 11)]) (N := N_law) (sc := defScope s_law) (by decide +kernel)) (fun sB HB CB clB fpB => (tg_one (c.blk sB HB _ _ fpB).nd)) (fun sB HB CB clB fpB => cd_none) (fun sB HB CB clB fpB => (je_call G.g__law_move (c.blk sB HB _ _ fpB).hr (c.blk sB HB _ _ fpB).tk (ja_cons (je_var 1) ja_nil)))) (tg_unl c.calm (tgs_cons (i := 2) c.nd (tgs_cons (i := 3) c.nd (tgs_cons (i := 4) c.nd tgs_nil)))))
  (jss_cons (js_par (i := 5) (j := 6) c.calm c.nd (ja_cons (je_call G.g__law_fraction c.hr c.tk (ja_cons (je_var 1) (ja_cons (je_bin je_int je_int) ja_nil))) (ja_cons (je_call G.g__law_fraction c.hr c.tk (ja_cons (je_var 1) (ja_cons (je_bin je_int je_int) ja_nil))) ja_nil)))
  (jss_cons (js_for0 (is := [7]) (one := true) c.po c.calm (ji_seq (je_lst (ja_cons (je_var 2) (ja_cons (je_var 3) (ja_cons (je_con T.co_SAME) ja_nil))))) (tg_one c.nd) (jss_cons (js_if (jt_not (jt_val (je_call G.g__law_same c.hr c.tk (ja_cons (je_call G.g_read_by c.hr c.tk (ja_cons (je_var 7) (ja_cons (je_var 5) ja_nil))) (ja_cons (je_call G.g__law_led c.hr c.tk (ja_cons (je_var 7) (ja_cons (je_var 5) ja_nil))) ja_nil))))) (jss_cons (js_ret je_bl)
  jss_nil) jss_nil)
  (jss_cons (js_if (jt_not (jt_val (je_call G.g__law_same c.hr c.tk (ja_cons (je_call G.g_stretch_by c.hr c.tk (ja_cons (je_var 7) (ja_cons (je_var 5) ja_nil))) (ja_cons (je_call G.g__law_times c.hr c.tk (ja_cons (je_idx (je_var 7) je_int) (ja_cons (je_var 5) ja_nil))) ja_nil))))) (jss_cons (js_ret je_bl)
  jss_nil) jss_nil)
  (jss_cons (js_if (jt_not (jt_val (je_call G.g__law_same c.hr c.tk (ja_cons (je_call G.g_move_back c.hr c.tk (ja_cons (je_var 7) ja_nil)) (ja_cons (je_call G.g__law_back c.hr c.tk (ja_cons (je_var 7) ja_nil)) ja_nil))))) (jss_cons (js_ret je_bl)
  jss_nil) jss_nil)
  (jss_cons (js_if (jt_not (jt_val (je_call G.g__law_same c.hr c.tk (ja_cons (je_lst (ja_cons (je_call G.g_move_then c.hr c.tk (ja_cons (je_var 7) (ja_cons (je_call G.g_move_back c.hr c.tk (ja_cons (je_var 7) ja_nil)) ja_nil))) (ja_cons (je_call G.g_move_then c.hr c.tk (ja_cons (je_call G.g_move_back c.hr c.tk (ja_cons (je_var 7) ja_nil)) (ja_cons (je_var 7) ja_nil))) ja_nil))) (ja_cons (je_lst (ja_cons (je_con T.co_SAME) (ja_cons (je_con T.co_SAME) ja_nil))) ja_nil))))) (jss_cons (js_ret je_bl)
  jss_nil) jss_nil)
  jss_nil)))))
  (jss_cons (js_set (i := 8) c.nd (je_call G.g_move_then c.hr c.tk (ja_cons (je_var 2) (ja_cons (je_var 3) ja_nil))))
  (jss_cons (js_if (jt_bool (jw_or (jt_not (jt_val (je_call G.g__law_same c.hr c.tk (ja_cons (je_var 8) (ja_cons (je_call G.g__law_then c.hr c.tk (ja_cons (je_var 2) (ja_cons (je_var 3) ja_nil))) ja_nil))))) (jw_or1 (jt_not (jt_val (je_call G.g__law_same c.hr c.tk (ja_cons (je_con T.co_SAME) (ja_cons (je_tup (ja_cons (je_tup (ja_cons je_int (ja_cons je_int ja_nil))) (ja_cons (je_tup (ja_cons je_int (ja_cons je_int ja_nil))) ja_nil))) ja_nil)))))))) (jss_cons (js_ret je_bl)
  jss_nil) jss_nil)
  (jss_cons (js_if (jt_not (jt_val (je_call G.g__law_same c.hr c.tk (ja_cons (je_call G.g_read_by c.hr c.tk (ja_cons (je_var 8) (ja_cons (je_var 5) ja_nil))) (ja_cons (je_call G.g_read_by c.hr c.tk (ja_cons (je_var 3) (ja_cons (je_call G.g_read_by c.hr c.tk (ja_cons (je_var 2) (ja_cons (je_var 5) ja_nil))) ja_nil))) ja_nil))))) (jss_cons (js_ret je_bl)
  jss_nil) jss_nil)
  (jss_cons (js_if (jt_bool (jw_or (jt_cmp c.hr.units (je_call G.g_move_then c.hr c.tk (ja_cons (je_var 8) (ja_cons (je_var 4) ja_nil))) (je_call G.g_move_then c.hr c.tk (ja_cons (je_var 2) (ja_cons (je_call G.g_move_then c.hr c.tk (ja_cons (je_var 3) (ja_cons (je_var 4) ja_nil))) ja_nil)))) (jw_or1 (jt_cmp c.hr.units (je_call G.g_read_by c.hr c.tk (ja_cons (je_con T.co_SAME) (ja_cons (je_var 5) ja_nil))) (je_var 5))))) (jss_cons (js_ret je_bl)
  jss_nil) jss_nil)
  (jss_cons (js_set (i := 9) c.nd (je_call G.g__law_plus c.hr c.tk (ja_cons (je_var 5) (ja_cons (je_tup (ja_cons (je_bin je_int (je_idx (je_var 6) je_int)) (ja_cons (je_idx (je_var 6) je_int) ja_nil))) ja_nil))))
  (jss_cons (js_set (i := 10) c.nd (je_call G.g__law_plus c.hr c.tk (ja_cons (je_call G.g_read_by c.hr c.tk (ja_cons (je_var 2) (ja_cons (je_var 5) ja_nil))) (ja_cons (je_call G.g__law_times c.hr c.tk (ja_cons (je_tup (ja_cons (je_bin je_int je_int) (ja_cons je_int ja_nil))) (ja_cons (je_call G.g_read_by c.hr c.tk (ja_cons (je_var 2) (ja_cons (je_var 6) ja_nil))) ja_nil))) ja_nil))))
  (jss_cons (js_ret (je_call G.g__law_same c.hr c.tk (ja_cons (je_call G.g_stretch_by c.hr c.tk (ja_cons (je_var 2) (ja_cons (je_var 9) ja_nil))) (ja_cons (je_var 10) ja_nil))))
  jss_nil)))))))))))
end
end Sb

set_option Elab.async false
set_option linter.all false
set_option maxRecDepth 100000
set_option maxHeartbeats 0
/-! all defs keep their promises; the head -/
namespace Sb
open PySem PySem.Spec L2
abbrev LV : Nat := 12
def hfa : List He.Fa := [.glo "common", .glo "fraction_of", .glo "plus_of", .glo "less_of", .glo "times_of", .glo "over_of", .glo "stretch_by", .glo "read_by", .glo "move_then", .glo "move_back", .glo "_law_start", .glo "_law_draw", .glo "_law_mix", .glo "_law_same", .glo "_law_lowest", .glo "_law_plus", .glo "_law_times", .glo "_law_led", .glo "_law_then", .glo "_law_back", .glo "_law_fraction", .glo "_law_move", .glo "law", .free "abs", .free "all", .free "bool", .free "int", .free "isinstance", .free "len", .free "list", .free "range", .free "str", .free "tuple", .free "zip"]
def d_common : He.DefD := ⟨("common", none), "common", "common", defArgs s_common, defBody s_common, defScope s_common, [], []⟩
def d_fraction_of : He.DefD := ⟨("fraction_of", none), "fraction_of", "fraction_of", defArgs s_fraction_of, defBody s_fraction_of, defScope s_fraction_of, [(.int 1)], []⟩
def d_plus_of : He.DefD := ⟨("plus_of", none), "plus_of", "plus_of", defArgs s_plus_of, defBody s_plus_of, defScope s_plus_of, [], []⟩
def d_less_of : He.DefD := ⟨("less_of", none), "less_of", "less_of", defArgs s_less_of, defBody s_less_of, defScope s_less_of, [], []⟩
def d_times_of : He.DefD := ⟨("times_of", none), "times_of", "times_of", defArgs s_times_of, defBody s_times_of, defScope s_times_of, [], []⟩
def d_over_of : He.DefD := ⟨("over_of", none), "over_of", "over_of", defArgs s_over_of, defBody s_over_of, defScope s_over_of, [], []⟩
def d_stretch_by : He.DefD := ⟨("stretch_by", none), "stretch_by", "stretch_by", defArgs s_stretch_by, defBody s_stretch_by, defScope s_stretch_by, [], []⟩
def d_read_by : He.DefD := ⟨("read_by", none), "read_by", "read_by", defArgs s_read_by, defBody s_read_by, defScope s_read_by, [], []⟩
def d_move_then : He.DefD := ⟨("move_then", none), "move_then", "move_then", defArgs s_move_then, defBody s_move_then, defScope s_move_then, [], []⟩
def d_move_back : He.DefD := ⟨("move_back", none), "move_back", "move_back", defArgs s_move_back, defBody s_move_back, defScope s_move_back, [], []⟩
def d__law_start : He.DefD := ⟨("_law_start", none), "_law_start", "_law_start", defArgs s__law_start, defBody s__law_start, defScope s__law_start, [], []⟩
def d__law_draw : He.DefD := ⟨("_law_draw", none), "_law_draw", "_law_draw", defArgs s__law_draw, defBody s__law_draw, defScope s__law_draw, [], []⟩
def d__law_mix : He.DefD := ⟨("_law_mix", none), "_law_mix", "_law_mix", defArgs s__law_mix, defBody s__law_mix, defScope s__law_mix, [], []⟩
def d__law_same : He.DefD := ⟨("_law_same", none), "_law_same", "_law_same", defArgs s__law_same, defBody s__law_same, defScope s__law_same, [], []⟩
def d__law_lowest : He.DefD := ⟨("_law_lowest", none), "_law_lowest", "_law_lowest", defArgs s__law_lowest, defBody s__law_lowest, defScope s__law_lowest, [], []⟩
def d__law_plus : He.DefD := ⟨("_law_plus", none), "_law_plus", "_law_plus", defArgs s__law_plus, defBody s__law_plus, defScope s__law_plus, [], []⟩
def d__law_times : He.DefD := ⟨("_law_times", none), "_law_times", "_law_times", defArgs s__law_times, defBody s__law_times, defScope s__law_times, [], []⟩
def d__law_led : He.DefD := ⟨("_law_led", none), "_law_led", "_law_led", defArgs s__law_led, defBody s__law_led, defScope s__law_led, [], []⟩
def d__law_then : He.DefD := ⟨("_law_then", none), "_law_then", "_law_then", defArgs s__law_then, defBody s__law_then, defScope s__law_then, [], []⟩
def d__law_back : He.DefD := ⟨("_law_back", none), "_law_back", "_law_back", defArgs s__law_back, defBody s__law_back, defScope s__law_back, [], []⟩
def d__law_fraction : He.DefD := ⟨("_law_fraction", none), "_law_fraction", "_law_fraction", defArgs s__law_fraction, defBody s__law_fraction, defScope s__law_fraction, [], []⟩
def d__law_move : He.DefD := ⟨("_law_move", none), "_law_move", "_law_move", defArgs s__law_move, defBody s__law_move, defScope s__law_move, [], []⟩
def d_law : He.DefD := ⟨("law", none), "law", "law", defArgs s_law, defBody s_law, defScope s_law, [], []⟩
def hfn : List He.DefD := [d_common, d_fraction_of, d_plus_of, d_less_of, d_times_of, d_over_of, d_stretch_by, d_read_by, d_move_then, d_move_back, d__law_start, d__law_draw, d__law_mix, d__law_same, d__law_lowest, d__law_plus, d__law_times, d__law_led, d__law_then, d__law_back, d__law_fraction, d__law_move, d_law]
def hex (K : PySem.W.Frag) : Bool := conB K "NOUGHT" (.tup [(.int 0), (.int 1)]) && conB K "SAME" (.tup [(.tup [(.int 1), (.int 1)]), (.tup [(.int 0), (.int 1)])])
theorem fcts {K : PySem.W.Frag} {h : Heap} {mg : Str → Option Value} (X : K.In h) (G : h.Ns mainGlobals mg) (c : He.SaysD hfa hfn K) (e : hex K = true) : Fcts K mg :=
  have e1 := e
  ⟨He.free_ok X G (c.fact 23 (f := .free "abs") rfl), He.free_ok X G (c.fact 24 (f := .free "all") rfl), He.free_ok X G (c.fact 25 (f := .free "bool") rfl), He.free_ok X G (c.fact 26 (f := .free "int") rfl), He.free_ok X G (c.fact 27 (f := .free "isinstance") rfl), He.free_ok X G (c.fact 28 (f := .free "len") rfl), He.free_ok X G (c.fact 29 (f := .free "list") rfl), He.free_ok X G (c.fact 30 (f := .free "range") rfl), He.free_ok X G (c.fact 31 (f := .free "str") rfl), He.free_ok X G (c.fact 32 (f := .free "tuple") rfl), He.free_ok X G (c.fact 33 (f := .free "zip") rfl), conB_ok X G (Bool.and_eq_true_iff.mp e1).1, conB_ok X G (Bool.and_eq_true_iff.mp e1).2⟩
theorem all_ok {P : Program} {w : World} {K : PySem.W.Frag} {h base : Heap} {mg : Str → Option Value} (X : K.In h) (Gh : h.Ns mainGlobals mg) (c : He.SaysD hfa hfn K) (e : hex K = true) : ∀ k, Fns P w K mg base k := by
  have T := fcts X Gh c e
  obtain ⟨fd_common, FD_common⟩ := c.def_ 0 (d := d_common) rfl
  obtain ⟨fd_fraction_of, FD_fraction_of⟩ := c.def_ 1 (d := d_fraction_of) rfl
  obtain ⟨fd_plus_of, FD_plus_of⟩ := c.def_ 2 (d := d_plus_of) rfl
  obtain ⟨fd_less_of, FD_less_of⟩ := c.def_ 3 (d := d_less_of) rfl
  obtain ⟨fd_times_of, FD_times_of⟩ := c.def_ 4 (d := d_times_of) rfl
  obtain ⟨fd_over_of, FD_over_of⟩ := c.def_ 5 (d := d_over_of) rfl
  obtain ⟨fd_stretch_by, FD_stretch_by⟩ := c.def_ 6 (d := d_stretch_by) rfl
  obtain ⟨fd_read_by, FD_read_by⟩ := c.def_ 7 (d := d_read_by) rfl
  obtain ⟨fd_move_then, FD_move_then⟩ := c.def_ 8 (d := d_move_then) rfl
  obtain ⟨fd_move_back, FD_move_back⟩ := c.def_ 9 (d := d_move_back) rfl
  obtain ⟨fd__law_start, FD__law_start⟩ := c.def_ 10 (d := d__law_start) rfl
  obtain ⟨fd__law_draw, FD__law_draw⟩ := c.def_ 11 (d := d__law_draw) rfl
  obtain ⟨fd__law_mix, FD__law_mix⟩ := c.def_ 12 (d := d__law_mix) rfl
  obtain ⟨fd__law_same, FD__law_same⟩ := c.def_ 13 (d := d__law_same) rfl
  obtain ⟨fd__law_lowest, FD__law_lowest⟩ := c.def_ 14 (d := d__law_lowest) rfl
  obtain ⟨fd__law_plus, FD__law_plus⟩ := c.def_ 15 (d := d__law_plus) rfl
  obtain ⟨fd__law_times, FD__law_times⟩ := c.def_ 16 (d := d__law_times) rfl
  obtain ⟨fd__law_led, FD__law_led⟩ := c.def_ 17 (d := d__law_led) rfl
  obtain ⟨fd__law_then, FD__law_then⟩ := c.def_ 18 (d := d__law_then) rfl
  obtain ⟨fd__law_back, FD__law_back⟩ := c.def_ 19 (d := d__law_back) rfl
  obtain ⟨fd__law_fraction, FD__law_fraction⟩ := c.def_ 20 (d := d__law_fraction) rfl
  obtain ⟨fd__law_move, FD__law_move⟩ := c.def_ 21 (d := d__law_move) rfl
  obtain ⟨fd_law, FD_law⟩ := c.def_ 22 (d := d_law) rfl
  intro k
  induction k with
  | zero => exact ⟨⟨He.ga K "common", fd_common, ["one", "other"], rfl, fn_zero, He.glo_ok X Gh (c.fact 0 (f := .glo "common") rfl), FD_common.kp, FD_common.bindsN (fun _ _ _ _ _ _ us hl => match us, hl with | [_, _], _ => rfl)⟩, ⟨He.ga K "fraction_of", fd_fraction_of, ["top", "bottom"], rfl, fn_zero, He.glo_ok X Gh (c.fact 1 (f := .glo "fraction_of") rfl), FD_fraction_of.kp, binds_full FD_fraction_of (List.cons_ne_nil _ _) (fun _ _ _ _ _ _ _ us its hl hi => match us, hl, its, hi with | [_, _], _, [_], _ => ⟨_, rfl, rfl⟩)⟩, ⟨He.ga K "plus_of", fd_plus_of, ["one", "other"], rfl, fn_zero, He.glo_ok X Gh (c.fact 2 (f := .glo "plus_of") rfl), FD_plus_of.kp, FD_plus_of.bindsN (fun _ _ _ _ _ _ us hl => match us, hl with | [_, _], _ => rfl)⟩, ⟨He.ga K "less_of", fd_less_of, ["one", "other"], rfl, fn_zero, He.glo_ok X Gh (c.fact 3 (f := .glo "less_of") rfl), FD_less_of.kp, FD_less_of.bindsN (fun _ _ _ _ _ _ us hl => match us, hl with | [_, _], _ => rfl)⟩, ⟨He.ga K "times_of", fd_times_of, ["one", "other"], rfl, fn_zero, He.glo_ok X Gh (c.fact 4 (f := .glo "times_of") rfl), FD_times_of.kp, FD_times_of.bindsN (fun _ _ _ _ _ _ us hl => match us, hl with | [_, _], _ => rfl)⟩, ⟨He.ga K "over_of", fd_over_of, ["one", "other"], rfl, fn_zero, He.glo_ok X Gh (c.fact 5 (f := .glo "over_of") rfl), FD_over_of.kp, FD_over_of.bindsN (fun _ _ _ _ _ _ us hl => match us, hl with | [_, _], _ => rfl)⟩, ⟨He.ga K "stretch_by", fd_stretch_by, ["move", "value"], rfl, fn_zero, He.glo_ok X Gh (c.fact 6 (f := .glo "stretch_by") rfl), FD_stretch_by.kp, FD_stretch_by.bindsN (fun _ _ _ _ _ _ us hl => match us, hl with | [_, _], _ => rfl)⟩, ⟨He.ga K "read_by", fd_read_by, ["move", "value"], rfl, fn_zero, He.glo_ok X Gh (c.fact 7 (f := .glo "read_by") rfl), FD_read_by.kp, FD_read_by.bindsN (fun _ _ _ _ _ _ us hl => match us, hl with | [_, _], _ => rfl)⟩, ⟨He.ga K "move_then", fd_move_then, ["one", "other"], rfl, fn_zero, He.glo_ok X Gh (c.fact 8 (f := .glo "move_then") rfl), FD_move_then.kp, FD_move_then.bindsN (fun _ _ _ _ _ _ us hl => match us, hl with | [_, _], _ => rfl)⟩, ⟨He.ga K "move_back", fd_move_back, ["move"], rfl, fn_zero, He.glo_ok X Gh (c.fact 9 (f := .glo "move_back") rfl), FD_move_back.kp, FD_move_back.bindsN (fun _ _ _ _ _ _ us hl => match us, hl with | [_], _ => rfl)⟩, ⟨He.ga K "_law_start", fd__law_start, ["_law_script"], rfl, fn_zero, He.glo_ok X Gh (c.fact 10 (f := .glo "_law_start") rfl), FD__law_start.kp, FD__law_start.bindsN (fun _ _ _ _ _ _ us hl => match us, hl with | [_], _ => rfl)⟩, ⟨He.ga K "_law_draw", fd__law_draw, ["_law_state", "_law_many"], rfl, fn_zero, He.glo_ok X Gh (c.fact 11 (f := .glo "_law_draw") rfl), FD__law_draw.kp, FD__law_draw.bindsN (fun _ _ _ _ _ _ us hl => match us, hl with | [_, _], _ => rfl)⟩, ⟨He.ga K "_law_mix", fd__law_mix, ["_law_state"], rfl, fn_zero, He.glo_ok X Gh (c.fact 12 (f := .glo "_law_mix") rfl), FD__law_mix.kp, FD__law_mix.bindsN (fun _ _ _ _ _ _ us hl => match us, hl with | [_], _ => rfl)⟩, ⟨He.ga K "_law_same", fd__law_same, ["_law_found", "_law_want"], rfl, fn_zero, He.glo_ok X Gh (c.fact 13 (f := .glo "_law_same") rfl), FD__law_same.kp, FD__law_same.bindsN (fun _ _ _ _ _ _ us hl => match us, hl with | [_, _], _ => rfl)⟩, ⟨He.ga K "_law_lowest", fd__law_lowest, ["_law_top", "_law_bottom"], rfl, fn_zero, He.glo_ok X Gh (c.fact 14 (f := .glo "_law_lowest") rfl), FD__law_lowest.kp, FD__law_lowest.bindsN (fun _ _ _ _ _ _ us hl => match us, hl with | [_, _], _ => rfl)⟩, ⟨He.ga K "_law_plus", fd__law_plus, ["_law_one", "_law_other"], rfl, fn_zero, He.glo_ok X Gh (c.fact 15 (f := .glo "_law_plus") rfl), FD__law_plus.kp, FD__law_plus.bindsN (fun _ _ _ _ _ _ us hl => match us, hl with | [_, _], _ => rfl)⟩, ⟨He.ga K "_law_times", fd__law_times, ["_law_one", "_law_other"], rfl, fn_zero, He.glo_ok X Gh (c.fact 16 (f := .glo "_law_times") rfl), FD__law_times.kp, FD__law_times.bindsN (fun _ _ _ _ _ _ us hl => match us, hl with | [_, _], _ => rfl)⟩, ⟨He.ga K "_law_led", fd__law_led, ["_law_move_here", "_law_value"], rfl, fn_zero, He.glo_ok X Gh (c.fact 17 (f := .glo "_law_led") rfl), FD__law_led.kp, FD__law_led.bindsN (fun _ _ _ _ _ _ us hl => match us, hl with | [_, _], _ => rfl)⟩, ⟨He.ga K "_law_then", fd__law_then, ["_law_one", "_law_other"], rfl, fn_zero, He.glo_ok X Gh (c.fact 18 (f := .glo "_law_then") rfl), FD__law_then.kp, FD__law_then.bindsN (fun _ _ _ _ _ _ us hl => match us, hl with | [_, _], _ => rfl)⟩, ⟨He.ga K "_law_back", fd__law_back, ["_law_move_here"], rfl, fn_zero, He.glo_ok X Gh (c.fact 19 (f := .glo "_law_back") rfl), FD__law_back.kp, FD__law_back.bindsN (fun _ _ _ _ _ _ us hl => match us, hl with | [_], _ => rfl)⟩, ⟨He.ga K "_law_fraction", fd__law_fraction, ["_law_state", "_law_most"], rfl, fn_zero, He.glo_ok X Gh (c.fact 20 (f := .glo "_law_fraction") rfl), FD__law_fraction.kp, FD__law_fraction.bindsN (fun _ _ _ _ _ _ us hl => match us, hl with | [_, _], _ => rfl)⟩, ⟨He.ga K "_law_move", fd__law_move, ["_law_state"], rfl, fn_zero, He.glo_ok X Gh (c.fact 21 (f := .glo "_law_move") rfl), FD__law_move.kp, FD__law_move.bindsN (fun _ _ _ _ _ _ us hl => match us, hl with | [_], _ => rfl)⟩, ⟨He.ga K "law", fd_law, ["_law_script"], rfl, fn_zero, He.glo_ok X Gh (c.fact 22 (f := .glo "law") rfl), FD_law.kp, FD_law.bindsN (fun _ _ _ _ _ _ us hl => match us, hl with | [_], _ => rfl)⟩⟩
  | succ k G => exact ⟨⟨He.ga K "common", fd_common, ["one", "other"], rfl, fn_ok (tbl := tbl) (fi := 0) FD_common sc_common rfl rfl (fun _ _ _ _ _ _ cq => jb_common T G cq), He.glo_ok X Gh (c.fact 0 (f := .glo "common") rfl), FD_common.kp, FD_common.bindsN (fun _ _ _ _ _ _ us hl => match us, hl with | [_, _], _ => rfl)⟩, ⟨He.ga K "fraction_of", fd_fraction_of, ["top", "bottom"], rfl, fn_ok (tbl := tbl) (fi := 15) FD_fraction_of sc_fraction_of rfl rfl (fun _ _ _ _ _ _ cq => jb_fraction_of T G cq), He.glo_ok X Gh (c.fact 1 (f := .glo "fraction_of") rfl), FD_fraction_of.kp, binds_full FD_fraction_of (List.cons_ne_nil _ _) (fun _ _ _ _ _ _ _ us its hl hi => match us, hl, its, hi with | [_, _], _, [_], _ => ⟨_, rfl, rfl⟩)⟩, ⟨He.ga K "plus_of", fd_plus_of, ["one", "other"], rfl, fn_ok (tbl := tbl) (fi := 16) FD_plus_of sc_plus_of rfl rfl (fun _ _ _ _ _ _ cq => jb_plus_of T G cq), He.glo_ok X Gh (c.fact 2 (f := .glo "plus_of") rfl), FD_plus_of.kp, FD_plus_of.bindsN (fun _ _ _ _ _ _ us hl => match us, hl with | [_, _], _ => rfl)⟩, ⟨He.ga K "less_of", fd_less_of, ["one", "other"], rfl, fn_ok (tbl := tbl) (fi := 17) FD_less_of sc_less_of rfl rfl (fun _ _ _ _ _ _ cq => jb_less_of T G cq), He.glo_ok X Gh (c.fact 3 (f := .glo "less_of") rfl), FD_less_of.kp, FD_less_of.bindsN (fun _ _ _ _ _ _ us hl => match us, hl with | [_, _], _ => rfl)⟩, ⟨He.ga K "times_of", fd_times_of, ["one", "other"], rfl, fn_ok (tbl := tbl) (fi := 18) FD_times_of sc_times_of rfl rfl (fun _ _ _ _ _ _ cq => jb_times_of T G cq), He.glo_ok X Gh (c.fact 4 (f := .glo "times_of") rfl), FD_times_of.kp, FD_times_of.bindsN (fun _ _ _ _ _ _ us hl => match us, hl with | [_, _], _ => rfl)⟩, ⟨He.ga K "over_of", fd_over_of, ["one", "other"], rfl, fn_ok (tbl := tbl) (fi := 19) FD_over_of sc_over_of rfl rfl (fun _ _ _ _ _ _ cq => jb_over_of T G cq), He.glo_ok X Gh (c.fact 5 (f := .glo "over_of") rfl), FD_over_of.kp, FD_over_of.bindsN (fun _ _ _ _ _ _ us hl => match us, hl with | [_, _], _ => rfl)⟩, ⟨He.ga K "stretch_by", fd_stretch_by, ["move", "value"], rfl, fn_ok (tbl := tbl) (fi := 20) FD_stretch_by sc_stretch_by rfl rfl (fun _ _ _ _ _ _ cq => jb_stretch_by T G cq), He.glo_ok X Gh (c.fact 6 (f := .glo "stretch_by") rfl), FD_stretch_by.kp, FD_stretch_by.bindsN (fun _ _ _ _ _ _ us hl => match us, hl with | [_, _], _ => rfl)⟩, ⟨He.ga K "read_by", fd_read_by, ["move", "value"], rfl, fn_ok (tbl := tbl) (fi := 21) FD_read_by sc_read_by rfl rfl (fun _ _ _ _ _ _ cq => jb_read_by T G cq), He.glo_ok X Gh (c.fact 7 (f := .glo "read_by") rfl), FD_read_by.kp, FD_read_by.bindsN (fun _ _ _ _ _ _ us hl => match us, hl with | [_, _], _ => rfl)⟩, ⟨He.ga K "move_then", fd_move_then, ["one", "other"], rfl, fn_ok (tbl := tbl) (fi := 22) FD_move_then sc_move_then rfl rfl (fun _ _ _ _ _ _ cq => jb_move_then T G cq), He.glo_ok X Gh (c.fact 8 (f := .glo "move_then") rfl), FD_move_then.kp, FD_move_then.bindsN (fun _ _ _ _ _ _ us hl => match us, hl with | [_, _], _ => rfl)⟩, ⟨He.ga K "move_back", fd_move_back, ["move"], rfl, fn_ok (tbl := tbl) (fi := 23) FD_move_back sc_move_back rfl rfl (fun _ _ _ _ _ _ cq => jb_move_back T G cq), He.glo_ok X Gh (c.fact 9 (f := .glo "move_back") rfl), FD_move_back.kp, FD_move_back.bindsN (fun _ _ _ _ _ _ us hl => match us, hl with | [_], _ => rfl)⟩, ⟨He.ga K "_law_start", fd__law_start, ["_law_script"], rfl, fn_ok (tbl := tbl) (fi := 4) FD__law_start sc__law_start rfl rfl (fun _ _ _ _ _ _ cq => jb__law_start T G cq), He.glo_ok X Gh (c.fact 10 (f := .glo "_law_start") rfl), FD__law_start.kp, FD__law_start.bindsN (fun _ _ _ _ _ _ us hl => match us, hl with | [_], _ => rfl)⟩, ⟨He.ga K "_law_draw", fd__law_draw, ["_law_state", "_law_many"], rfl, fn_ok (tbl := tbl) (fi := 6) FD__law_draw sc__law_draw rfl rfl (fun _ _ _ _ _ _ cq => jb__law_draw T G cq), He.glo_ok X Gh (c.fact 11 (f := .glo "_law_draw") rfl), FD__law_draw.kp, FD__law_draw.bindsN (fun _ _ _ _ _ _ us hl => match us, hl with | [_, _], _ => rfl)⟩, ⟨He.ga K "_law_mix", fd__law_mix, ["_law_state"], rfl, fn_ok (tbl := tbl) (fi := 5) FD__law_mix sc__law_mix rfl rfl (fun _ _ _ _ _ _ cq => jb__law_mix T G cq), He.glo_ok X Gh (c.fact 12 (f := .glo "_law_mix") rfl), FD__law_mix.kp, FD__law_mix.bindsN (fun _ _ _ _ _ _ us hl => match us, hl with | [_], _ => rfl)⟩, ⟨He.ga K "_law_same", fd__law_same, ["_law_found", "_law_want"], rfl, fn_ok (tbl := tbl) (fi := 7) FD__law_same sc__law_same rfl rfl (fun _ _ _ _ _ _ cq => jb__law_same T G cq), He.glo_ok X Gh (c.fact 13 (f := .glo "_law_same") rfl), FD__law_same.kp, FD__law_same.bindsN (fun _ _ _ _ _ _ us hl => match us, hl with | [_, _], _ => rfl)⟩, ⟨He.ga K "_law_lowest", fd__law_lowest, ["_law_top", "_law_bottom"], rfl, fn_ok (tbl := tbl) (fi := 9) FD__law_lowest sc__law_lowest rfl rfl (fun _ _ _ _ _ _ cq => jb__law_lowest T G cq), He.glo_ok X Gh (c.fact 14 (f := .glo "_law_lowest") rfl), FD__law_lowest.kp, FD__law_lowest.bindsN (fun _ _ _ _ _ _ us hl => match us, hl with | [_, _], _ => rfl)⟩, ⟨He.ga K "_law_plus", fd__law_plus, ["_law_one", "_law_other"], rfl, fn_ok (tbl := tbl) (fi := 24) FD__law_plus sc__law_plus rfl rfl (fun _ _ _ _ _ _ cq => jb__law_plus T G cq), He.glo_ok X Gh (c.fact 15 (f := .glo "_law_plus") rfl), FD__law_plus.kp, FD__law_plus.bindsN (fun _ _ _ _ _ _ us hl => match us, hl with | [_, _], _ => rfl)⟩, ⟨He.ga K "_law_times", fd__law_times, ["_law_one", "_law_other"], rfl, fn_ok (tbl := tbl) (fi := 25) FD__law_times sc__law_times rfl rfl (fun _ _ _ _ _ _ cq => jb__law_times T G cq), He.glo_ok X Gh (c.fact 16 (f := .glo "_law_times") rfl), FD__law_times.kp, FD__law_times.bindsN (fun _ _ _ _ _ _ us hl => match us, hl with | [_, _], _ => rfl)⟩, ⟨He.ga K "_law_led", fd__law_led, ["_law_move_here", "_law_value"], rfl, fn_ok (tbl := tbl) (fi := 26) FD__law_led sc__law_led rfl rfl (fun _ _ _ _ _ _ cq => jb__law_led T G cq), He.glo_ok X Gh (c.fact 17 (f := .glo "_law_led") rfl), FD__law_led.kp, FD__law_led.bindsN (fun _ _ _ _ _ _ us hl => match us, hl with | [_, _], _ => rfl)⟩, ⟨He.ga K "_law_then", fd__law_then, ["_law_one", "_law_other"], rfl, fn_ok (tbl := tbl) (fi := 27) FD__law_then sc__law_then rfl rfl (fun _ _ _ _ _ _ cq => jb__law_then T G cq), He.glo_ok X Gh (c.fact 18 (f := .glo "_law_then") rfl), FD__law_then.kp, FD__law_then.bindsN (fun _ _ _ _ _ _ us hl => match us, hl with | [_, _], _ => rfl)⟩, ⟨He.ga K "_law_back", fd__law_back, ["_law_move_here"], rfl, fn_ok (tbl := tbl) (fi := 28) FD__law_back sc__law_back rfl rfl (fun _ _ _ _ _ _ cq => jb__law_back T G cq), He.glo_ok X Gh (c.fact 19 (f := .glo "_law_back") rfl), FD__law_back.kp, FD__law_back.bindsN (fun _ _ _ _ _ _ us hl => match us, hl with | [_], _ => rfl)⟩, ⟨He.ga K "_law_fraction", fd__law_fraction, ["_law_state", "_law_most"], rfl, fn_ok (tbl := tbl) (fi := 29) FD__law_fraction sc__law_fraction rfl rfl (fun _ _ _ _ _ _ cq => jb__law_fraction T G cq), He.glo_ok X Gh (c.fact 20 (f := .glo "_law_fraction") rfl), FD__law_fraction.kp, FD__law_fraction.bindsN (fun _ _ _ _ _ _ us hl => match us, hl with | [_, _], _ => rfl)⟩, ⟨He.ga K "_law_move", fd__law_move, ["_law_state"], rfl, fn_ok (tbl := tbl) (fi := 30) FD__law_move sc__law_move rfl rfl (fun _ _ _ _ _ _ cq => jb__law_move T G cq), He.glo_ok X Gh (c.fact 21 (f := .glo "_law_move") rfl), FD__law_move.kp, FD__law_move.bindsN (fun _ _ _ _ _ _ us hl => match us, hl with | [_], _ => rfl)⟩, ⟨He.ga K "law", fd_law, ["_law_script"], rfl, fn_ok (tbl := tbl) (fi := 31) FD_law sc_law rfl rfl (fun _ _ _ _ _ _ cq => jb_law T G cq), He.glo_ok X Gh (c.fact 22 (f := .glo "law") rfl), FD_law.kp, FD_law.bindsN (fun _ _ _ _ _ _ us hl => match us, hl with | [_], _ => rfl)⟩⟩
theorem law_fn {P : Program} {w : World} {K : PySem.W.Frag} {h : Heap} {mg : Str → Option Value} {fa : Addr} (X : K.In h) (Gh : h.Ns mainGlobals mg) (hlw : mg ("law" : Str) = some (.ref fa)) (c : He.SaysD hfa hfn K) (e : hex K = true) :
    ∃ fd : FuncData, (∀ (s : Shared) (v : Value), BindsTo s fd ⟨[v], []⟩ [("_law_script", v)]) ∧ ∀ base : Heap, K.In base → base.Ns mainGlobals mg → FnOk P w K mg base (L2.CX P w) LV fa fd ["_law_script"] (spF K mg (call tbl LV) 31 1) := by
  obtain ⟨fd, F⟩ := c.def_ 22 (d := d_law) rfl
  have ee := hlw.symm.trans (He.glo_ok X Gh (c.fact 22 (f := .glo "law") rfl))
  cases ee
  have b := FunD.bindsA (ps := ["_law_script"]) F fun _ _ _ _ _ _ us hl => match us, hl with | [_], _ => rfl
  exact ⟨fd, fun s v => b s [v] rfl, fun base _ _ => fn_ok (tbl := tbl) (fi := 31) F sc_law rfl rfl (fun _ _ _ _ _ _ cq => jb_law (fcts X Gh c e) (all_ok X Gh c e _) cq)⟩
abbrev Rr : PySem.W.OpenRow := PySem.W.OpenLaw.row PySem.Challenge.rw_scalebook_k02_moves
def loose : List PySem.Str := ["BookError", "NoBottom", "common", "fraction_of", "plus_of", "less_of", "times_of", "over_of", "NOUGHT", "SAME", "stretch_by", "read_by", "move_then", "move_back", "_law_start", "_law_draw", "_law_mix", "_law_same", "_law_lowest", "_law_plus", "_law_times", "_law_led", "_law_then", "_law_back", "_law_fraction", "_law_move"]
theorem run (w : World) : HandSHeadRun.RunEq Rr (PySem.W.view Rr.prog [30]) (hookE 5 hfa hfn hex) (obsE 5 hfa hfn hex) 3000 loose w := by
  intro os
  kernel_rfl
end Sb

set_option Elab.async false
set_option linter.all false
set_option maxRecDepth 100000
set_option maxHeartbeats 4000000
/-! Sb: the laws' drawing of numbers. -/
namespace Sb
open PySem

/-- all but the places S is as it was -/
structure Fr (S : List Nat) (h h' : PH) : Prop where
  len : h.length ≤ h'.length
  at_ : ∀ n, n ∉ S → n < h.length → h'[n]? = h[n]?
theorem Fr.refl (S : List Nat) (h : PH) : Fr S h h := ⟨Nat.le_refl _, fun _ _ _ => rfl⟩
theorem Fr.trans {S : List Nat} {h1 h2 h3 : PH} (a : Fr S h1 h2) (b : Fr S h2 h3) : Fr S h1 h3 := ⟨Nat.le_trans a.len b.len, fun n hn hl => (b.at_ n hn (Nat.lt_of_lt_of_le hl a.len)).trans (a.at_ n hn hl)⟩
theorem Fr.set {S : List Nat} {h : PH} {n : Nat} {o : PO} (m : n ∈ S) : Fr S h (h.set n o) := ⟨by rw [List.length_set]; exact Nat.le_refl _, fun k hk _ => by
  rw [List.getElem?_set_ne]
  rintro rfl
  exact hk m⟩
theorem Fr.app {S : List Nat} {h t : PH} : Fr S h (h ++ t) := ⟨by simp, fun k _ hl => List.getElem?_append_left hl⟩
theorem Fr.some {S : List Nat} {h h' : PH} (f : Fr S h h') {n : Nat} {o : PO} (hn : n ∉ S) (e : h[n]? = some o) : h'[n]? = some o := (f.at_ n hn (List.getElem?_eq_some_iff.mp e).1).trans e
theorem Fr.mono {S S' : List Nat} {h h' : PH} (f : Fr S h h') (hs : ∀ n ∈ S, n ∈ S') : Fr S' h h' := ⟨f.len, fun n hn hl => f.at_ n (fun z => hn (hs n z)) hl⟩

/-- the state of the draws: s the state's list, g the great numbers left, c the cells; at most B mixes were made -/
structure St (h : PH) (s g c B : Nat) : Prop where
  ex : ∃ (gr : List Int) (cur : Int) (cs : List Int) (cnt : Int), h[s]? = some (.lst [.ref g, .int cur, .ref c, .int cnt]) ∧ h[g]? = some (.lst (gr.map PV.int)) ∧ h[c]? = some (.lst (cs.map PV.int)) ∧
    (∀ x ∈ gr, 0 < x) ∧ (∀ x ∈ cs, 0 ≤ x ∧ x < 2147483587) ∧ cs.length ≤ 1000000 ∧ 0 ≤ cur ∧ 0 ≤ cnt ∧ cnt ≤ (B : Int)
  sg : s ≠ g
  sc : s ≠ c
  gc : g ≠ c
theorem St.frame {h h' : PH} {s g c B : Nat} {S : List Nat} (st : St h s g c B) (f : Fr S h h') (h1 : s ∉ S) (h2 : g ∉ S) (h3 : c ∉ S) : St h' s g c B := by
  obtain ⟨gr, cur, cs, cnt, e1, e2, e3, r⟩ := st.ex
  exact ⟨⟨gr, cur, cs, cnt, f.some h1 e1, f.some h2 e2, f.some h3 e3, r⟩, st.sg, st.sc, st.gc⟩
theorem St.app {h t : PH} {s g c B : Nat} (st : St h s g c B) : St (h ++ t) s g c B := st.frame (S := []) Fr.app (by simp) (by simp) (by simp)
theorem St.up {h : PH} {s g c B B' : Nat} (st : St h s g c B) (hb : B ≤ B') : St h s g c B' := by
  obtain ⟨gr, cur, cs, cnt, e1, e2, e3, r1, r2, r3, r4, r5, r6⟩ := st.ex
  exact ⟨⟨gr, cur, cs, cnt, e1, e2, e3, r1, r2, r3, r4, r5, by omega⟩, st.sg, st.sc, st.gc⟩
theorem set_at {h : PH} {n : Nat} {o o' : PO} (e : h[n]? = some o) : (h.set n o')[n]? = some o' := List.getElem?_set_self (List.getElem?_eq_some_iff.mp e).1
theorem set_ne' {h : PH} {n m : Nat} {o : PO} (e : n ≠ m) : (h.set n o)[m]? = h[m]? := List.getElem?_set_ne e
section
variable {tbl : Nat → Fn}
theorem mix_sat (h5 : tbl 5 = F_law_mix) {k : Nat} {h : PH} {s g c B : Nat} (st : St h s g c B) (hB : B + 1 ≤ 2 ^ 20) {Q : PV → PH → Prop}
    (q : ∀ r h', 0 ≤ r → r < 1000000007 → St h' s g c (B + 1) → Fr [s, g] h h' → h'.length = h.length → Q (.int r) h') : (call tbl (k + 1) 5 [.ref s] h).Sat Q := by
  rw [call_succ, h5]
  obtain ⟨gr, cur, cs, cnt, e1, e2, e3, r1, r2, r3, r4, r5, r6⟩ := st.ex
  refine fn_sat rfl ?_
  have hn : h.set s (.lst [.ref g, .int cur, .ref c, .int (cnt + 1)]) = h.set s (.lst [.ref g, .int cur, .ref c, .int (cnt + 1)]) := rfl
  generalize eh : h.set s (.lst [.ref g, .int cur, .ref c, .int (cnt + 1)]) = h1 at hn
  have f1 : h1[s]? = some (.lst [.ref g, .int cur, .ref c, .int (cnt + 1)]) := by rw [← eh]; exact set_at e1
  have f2 : h1[g]? = some (.lst (gr.map PV.int)) := by rw [← eh, set_ne' st.sg]; exact e2
  have f3 : h1[c]? = some (.lst (cs.map PV.int)) := by rw [← eh, set_ne' st.sc]; exact e3
  have st1 : St h1 s g c (B + 1) := ⟨⟨gr, cur, cs, cnt + 1, f1, f2, f3, r1, r2, r3, r4, by omega, by omega⟩, st.sg, st.sc, st.gc⟩
  have fr1 : Fr [s, g] h h1 := by rw [← eh]; exact Fr.set (by simp)
  have i3 : idxop (.ref s) (.int 3) h1 = .ok (.int (cnt + 1)) h1 := idx_ref f1 rfl
  have i2 : idxop (.ref s) (.int 2) h1 = .ok (.ref c) h1 := idx_ref f1 rfl
  -- the sum's end, whatever the cell is
  have fin_ : ∀ cell : Int, 0 ≤ cell → cell < 2147483587 → (exSs (call tbl k) [.asg (.nm 3) (.bin .Mod (.bin .Pow (.bin .Add (.bin .Add (.bin .Add (.var 2) (.bin .Mult (.bin .Mult (.lit (.int 769)) (.var 1)) (.var 1))) (.bin .Mult (.lit (.int 52361)) (.var 1))) (.lit (.int 23))) (.lit (.int 5))) (.lit (.int 2147483647))),
      .ret (.bin .Mod (.bin .Add (.bin .Mult (.var 3) (.lit (.int 48271))) (.bin .Mult (.lit (.int 6007)) (.var 1))) (.lit (.int 1000000007)))] [some (.ref s), some (.int (cnt + 1)), some (.int cell), none] h1).Sat (fun _ h => Q .non h) Q := by
    intro cell c0 c1
    have b20 : cnt + 1 ≤ 2 ^ 20 := by omega
    have m1 : mulOk 769 (cnt + 1) = true := mul_ok (a := 10) (b := 21) (by decide) (by omega) (by decide) (by decide) (by decide)
    have s1 : 769 * (cnt + 1) ≤ 769 * 2 ^ 20 := by omega
    have m2 : mulOk (769 * (cnt + 1)) (cnt + 1) = true := mul_ok (a := 31) (b := 21) (by omega) (by omega) (by decide) (by decide) (by decide)
    have m3 : mulOk 52361 (cnt + 1) = true := mul_ok (a := 16) (b := 21) (by decide) (by omega) (by decide) (by decide) (by decide)
    have s2 : 769 * (cnt + 1) * (cnt + 1) ≤ 769 * 2 ^ 20 * 2 ^ 20 := Int.mul_le_mul s1 b20 (by omega) (by omega)
    have s3 : 0 ≤ 769 * (cnt + 1) * (cnt + 1) := Int.mul_nonneg (by omega) (by omega)
    have p1 : powOk (cell + 769 * (cnt + 1) * (cnt + 1) + 52361 * (cnt + 1) + 23) 5 = true := by
      unfold powOk
      rw [decide_eq_true (show (cell + 769 * (cnt + 1) * (cnt + 1) + 52361 * (cnt + 1) + 23).natAbs < 2 ^ 64 by omega)]
      rfl
    generalize hx : (cell + 769 * (cnt + 1) * (cnt + 1) + 52361 * (cnt + 1) + 23) ^ 5 = x
    have md := Int.emod_lt_of_pos x (show (0 : Int) < 2147483647 by decide)
    have mn := Int.emod_nonneg x (show (2147483647 : Int) ≠ 0 by decide)
    have m4 : mulOk (x % 2147483647) 48271 = true := mul_ok (a := 31) (b := 16) (by omega) (by decide) (by decide) (by decide) (by decide)
    have m5 : mulOk 6007 (cnt + 1) = true := mul_ok (a := 13) (b := 21) (by decide) (by omega) (by decide) (by decide) (by decide)
    have e47 : (2147483647 : Int) ≠ 0 := by decide
    have e07 : (1000000007 : Int) ≠ 0 := by decide
    simp [x_cons, b_mul, b_mod, b_pow, m1, m2, m3, p1, hx, fmod_pos, m4, m5, e47, e07]
    exact q _ _ (Int.emod_nonneg _ (by decide)) (Int.emod_lt_of_pos _ (by decide)) st1 fr1 (by rw [← eh, List.length_set])
  have getl : getL (.ref s) (.int 3) h = .ok (.int cnt) h := by simp [getL, e1]
  have seto : setop (.ref s) (.int 3) (.int (cnt + 1)) h = some h1 := by simp [setop, e1, L2.ixN, eh]
  have tr : truthy h1 (.ref c) = some (!(cs.map PV.int).isEmpty) := tru_ref f3
  simp only [F_law_mix, startP, List.map, List.length, List.replicate, List.cons_append, List.nil_append]
  rw [x_cons, x_augs]
  simp [getl, seto]
  rw [x_cons]
  simp [i3]
  rw [x_cons]
  simp
  rw [x_cons]
  simp [i2, tr, x_cons]
  cases cs with
  | nil => simpa [x_cons] using fin_ 11 (by decide) (by decide)
  | cons y ys =>
    have ln : biF .len [.ref c] h1 = .ok (.int ((ys.length : Int) + 1)) h1 := by simp [biF, biLen, seqOf, f3]
    have hp : (0 : Int) < (ys.length : Int) + 1 := by omega
    have hi0 := Int.emod_nonneg (cnt + 1) (show ((ys.length : Int) + 1) ≠ 0 by omega)
    have hi1 := Int.emod_lt_of_pos (cnt + 1) hp
    obtain ⟨z, hz⟩ : ∃ z, (y :: ys)[((cnt + 1) % ((ys.length : Int) + 1)).toNat]? = some z := ⟨_, List.getElem?_eq_getElem (by rw [List.length_cons]; omega)⟩
    have iz : idxop (.ref c) (.int ((cnt + 1) % ((ys.length : Int) + 1))) h1 = .ok (.int z) h1 := idx_ref f3 (at_pos hi0 (by rw [List.getElem?_map, hz]; rfl))
    obtain ⟨z0, z1⟩ := r2 z (List.mem_of_getElem? hz)
    have md := b_mod (h := h1) (i := cnt + 1) (show ((ys.length : Int) + 1) ≠ 0 by omega)
    rw [fmod_pos hp] at md
    simp [ln, md, iz]
    simpa [x_cons] using fin_ z z0 z1
theorem M_pow (i : Nat) (h : i ≤ 7) : (1000000007 : Int) ^ i ≤ 1000000007 ^ 7 ∧ 1 ≤ (1000000007 : Int) ^ i := by
  match i, h with
  | 0, _ => decide
  | 1, _ => decide
  | 2, _ => decide
  | 3, _ => decide
  | 4, _ => decide
  | 5, _ => decide
  | 6, _ => decide
  | 7, _ => decide
theorem draw_sat (h5 : tbl 5 = F_law_mix) (h6 : tbl 6 = F_law_draw) {k : Nat} {h : PH} {s g c B : Nat} {m : Int} (st : St h s g c B) (hB : B + 8 ≤ 2 ^ 20) (m0 : 0 < m) (m1 : m ≤ 10 ^ 62) {Q : PV → PH → Prop}
    (q : ∀ r h', 0 ≤ r → r < m → St h' s g c (B + 8) → Fr [s, g] h h' → h'.length = h.length → Q (.int r) h') : (call tbl (k + 2) 6 [.ref s, .int m] h).Sat Q := by
  rw [call_succ, h6]
  refine fn_sat rfl ?_
  obtain ⟨gr, cur, cs, cnt, e1, e2, e3, r1, r2, r3, r4, r5, r6⟩ := st.ex
  have mz : m ≠ 0 := by omega
  have mb : m.natAbs < 2 ^ 207 := by
    have : (10 : Int) ^ 62 < 2 ^ 207 := by decide
    omega
  have md : divOk m = true := div_ok mz mb (by decide) (by decide)
  -- behind the first statement
  have rest : ∀ (gr : List Int) (cur : Int) (h1 : PH), h1[s]? = some (.lst [.ref g, .int cur, .ref c, .int cnt]) → h1[g]? = some (.lst (gr.map PV.int)) → h1[c]? = some (.lst (cs.map PV.int)) → (∀ x ∈ gr, 0 < x) → 0 ≤ cur → Fr [s, g] h h1 → h1.length = h.length →
      (exSs (call tbl (k + 1)) [.ifs (.cmp .Gt (.idx (.var 0) (.lit (.int 1))) (.lit (.int 0))) [.asg (.nm 2) (.bin .Mod (.idx (.var 0) (.lit (.int 1))) (.var 1)),
  .asg (.sub (.var 0) (.lit (.int 1))) (.bin .FloorDiv (.idx (.var 0) (.lit (.int 1))) (.var 1)),
  .ret (.var 2)] [],
  .asg (.nm 2) (.lit (.int 0)),
  .asg (.nm 3) (.lit (.int 1)),
  .whl (.cmp .Lt (.var 3) (.var 1)) [.asg (.nm 2) (.bin .Add (.bin .Mult (.var 2) (.lit (.int 1000000007))) (.call 5 [(.var 0)] [])),
  .asg (.nm 3) (.bin .Mult (.var 3) (.lit (.int 1000000007)))],
  .ret (.bin .Mod (.var 2) (.var 1))] [some (.ref s), some (.int m), none, none] h1).Sat (fun _ h => Q .non h) Q := by
    intro gr cur h1 e1 e2 e3 r1 r4 fr hl
    have st1 : St h1 s g c B := ⟨⟨gr, cur, cs, cnt, e1, e2, e3, r1, r2, r3, r4, r5, r6⟩, st.sg, st.sc, st.gc⟩
    have i1 : idxop (.ref s) (.int 1) h1 = .ok (.int cur) h1 := idx_ref e1 rfl
    by_cases hc : 0 < cur
    · have bm := b_mod (h := h1) (i := cur) mz
      have bd := b_fdiv (h := h1) (i := cur) md
      rw [fmod_pos m0] at bm
      rw [fdiv_pos m0] at bd
      have so : setop (.ref s) (.int 1) (.int (cur / m)) h1 = some (h1.set s (.lst [.ref g, .int (cur / m), .ref c, .int cnt])) := by simp [setop, e1, L2.ixN]
      simp [x_cons, i1, hc, bm, bd, so]
      refine q _ _ (Int.emod_nonneg _ mz) (Int.emod_lt_of_pos _ m0) ⟨⟨gr, cur / m, cs, cnt, set_at e1, ?_, ?_, r1, r2, r3, Int.ediv_nonneg r4 (by omega), r5, by omega⟩, st.sg, st.sc, st.gc⟩ (fr.trans (Fr.set (by simp))) (by rw [List.length_set, hl])
      · rw [set_ne' st.sg]; exact e2
      · rw [set_ne' st.sc]; exact e3
    · rw [x_cons]
      simp [i1, hc]
      rw [x_cons]
      simp
      rw [x_cons]
      simp
      rw [x_cons]
      obtain ⟨I, hI⟩ : ∃ I : Nat → Env → PH → Prop, I = fun n ρ h' => ∃ (i : Nat) (told : Int), n = 7 - i ∧ ρ = [some (.ref s), some (.int m), some (.int told), some (.int (1000000007 ^ i))] ∧ i ≤ 7 ∧ 0 ≤ told ∧ told < 1000000007 ^ i ∧ St h' s g c (B + i) ∧ Fr [s, g] h h' ∧ h'.length = h.length := ⟨_, rfl⟩
      refine x_whl I 7 (by rw [hI]; exact ⟨0, 0, rfl, rfl, by decide, by decide, by decide, st1, fr, hl⟩) ?_
      intro n ρ h2 hi
      rw [hI] at hi
      obtain ⟨i, told, rfl, rfl, i7, t0, t1, st2, fr2, hl2⟩ := hi
      obtain ⟨p1, p2⟩ := M_pow i i7
      by_cases hlt : (1000000007 : Int) ^ i < m
      · have i6 : i < 7 := by
          rcases Nat.lt_or_ge i 7 with z | z
          · exact z
          · have : i = 7 := by omega
            subst this
            have : (10 : Int) ^ 62 < 1000000007 ^ 7 := by decide
            omega
        have p7 : (1000000007 : Int) ^ 7 < 2 ^ 210 := by decide
        have k1 : mulOk told 1000000007 = true := mul_ok (a := 210) (b := 30) (by omega) (by decide) (by decide) (by decide) (by decide)
        have k2 : mulOk (1000000007 ^ i) 1000000007 = true := mul_ok (a := 210) (b := 30) (by omega) (by decide) (by decide) (by decide) (by decide)
        simp [hlt, b_mul, k1, x_cons]
        refine mix_sat h5 st2 (by omega) fun r h3 q1 q2 st3 fr3 hl3 => ?_
        simp [b_mul, k2]
        have ps : (1000000007 : Int) ^ (i + 1) = 1000000007 ^ i * 1000000007 := Int.pow_succ _ _
        refine ⟨7 - (i + 1), by omega, ?_⟩
        rw [hI]
        refine ⟨i + 1, told * 1000000007 + r, rfl, by rw [ps], by omega, by omega, ?_, st3, fr2.trans fr3, hl3.trans hl2⟩
        rw [ps]
        omega
      · simp [hlt]
        have bm := b_mod (h := h2) (i := told) mz
        rw [fmod_pos m0] at bm
        simp [bm, x_cons]
        exact q _ _ (Int.emod_nonneg _ mz) (Int.emod_lt_of_pos _ m0) (st2.up (by omega)) fr2 hl2
  have i0 : idxop (.ref s) (.int 0) h = .ok (.ref g) h := idx_ref e1 rfl
  have i1 : idxop (.ref s) (.int 1) h = .ok (.int cur) h := idx_ref e1 rfl
  have tr : truthy h (.ref g) = some (!(gr.map PV.int).isEmpty) := tru_ref e2
  simp only [F_law_draw, startP, List.map, List.length, List.replicate, List.cons_append, List.nil_append]
  rw [x_cons, x_if]
  simp [i1, i0, tr]
  by_cases hc : cur = 0
  · subst hc
    cases gr with
    | nil =>
      simp
      exact rest [] 0 h e1 e2 e3 (by simp) (by decide) (Fr.refl _ _) rfl
    | cons x xs =>
      have ty : tyOf h (.ref g) = some .list := by simp [tyOf, e2]
      have so : setop (.ref s) (.int 1) (.int x) (h.set g (.lst (xs.map PV.int))) = some ((h.set g (.lst (xs.map PV.int))).set s (.lst [.ref g, .int x, .ref c, .int cnt])) := by
        have : (h.set g (.lst (xs.map PV.int)))[s]? = some (.lst [.ref g, .int 0, .ref c, .int cnt]) := by rw [set_ne' (Ne.symm st.sg)]; exact e1
        simp [setop, this, L2.ixN]
      have pp : mtF .popAt (.ref g) [.int 0] h = .ok (.int x) (h.set g (.lst (xs.map PV.int))) := by simp [mtF, mtPopAt, e2]
      simp [i0, ty, MT.ty, pp, so]
      have q1 : ((h.set g (.lst (xs.map PV.int))).set s (.lst [.ref g, .int x, .ref c, .int cnt]))[s]? = some (.lst [.ref g, .int x, .ref c, .int cnt]) := set_at (o := .lst [.ref g, .int 0, .ref c, .int cnt]) (by rw [set_ne' (Ne.symm st.sg)]; exact e1)
      have q2 : ((h.set g (.lst (xs.map PV.int))).set s (.lst [.ref g, .int x, .ref c, .int cnt]))[g]? = some (.lst (xs.map PV.int)) := by rw [set_ne' st.sg]; exact set_at e2
      have q3 : ((h.set g (.lst (xs.map PV.int))).set s (.lst [.ref g, .int x, .ref c, .int cnt]))[c]? = some (.lst (cs.map PV.int)) := by rw [set_ne' st.sc, set_ne' st.gc]; exact e3
      exact rest xs x _ q1 q2 q3 (fun y hy => r1 y (List.mem_cons_of_mem _ hy)) (Int.le_of_lt (r1 x List.mem_cons_self)) ((Fr.set (by simp)).trans (Fr.set (by simp))) (by simp)
  · simp [hc]
    exact rest gr cur h e1 e2 e3 r1 r4 (Fr.refl _ _) rfl
end
end Sb

set_option Elab.async false
set_option linter.all false
set_option maxRecDepth 100000
set_option maxHeartbeats 4000000
/-! Sb: the laws' start, greatest common divisors, lowest terms. -/
namespace Sb
open PySem
theorem R.Sat.eq {α : Type} {m : R α} {x : α} {y : PH} (s : m.Sat fun a h => a = x ∧ h = y) : m = .ok x y := by
  obtain ⟨a, h, e, rfl, rfl⟩ := s.ex
  exact e
theorem stays_nil (h : PH) : stays [] h := fun p hp => by cases hp
section
variable {tbl : Nat → Fn}
theorem start_sat (h4 : tbl 4 = F_law_start) {k : Nat} {h : PH} {ns : List Int} (hn : ns.length ≤ 63) {Q : PV → PH → Prop}
    (q : ∀ h', St h' (h.length + 2) h.length (h.length + 1) 0 → Fr [] h h' → h'.length = h.length + 3 → Q (.ref (h.length + 2)) h') : (call tbl (k + 1) 4 [.cl (ns.map PV.int)] h).Sat Q := by
  rw [call_succ, h4]
  refine fn_sat rfl ?_
  simp only [F_law_start, startP, List.map, List.length, List.replicate, List.cons_append, List.nil_append]
  rw [x_cons, x_set]
  obtain ⟨I, hI⟩ : ∃ I : Nat → List PV → PH → Prop, I = fun i acc h' => h' = h ∧ ∃ gr : List Int, acc = gr.map PV.int ∧ (∀ x ∈ gr, 0 < x) ∧ gr.length ≤ i := ⟨_, rfl⟩
  refine v_compE (l := [.cl (ns.map PV.int)]) (h1 := h) (by simp) rfl I (by rw [hI]; exact ⟨rfl, [], rfl, by simp, Nat.le_refl _⟩) (fun i x acc h1 hx hi => ?_) (fun acc h1 hi => ?_)
  · rw [List.getElem?_map] at hx
    obtain ⟨y, hy, ex⟩ := Option.map_eq_some_iff.mp hx
    rw [hI] at hi
    obtain ⟨rfl, gr, rfl, g1, g2⟩ := hi
    subst ex
    have hi : i < 63 := by
      have := (List.getElem?_eq_some_iff.mp hy).1
      omega
    refine ⟨stays_nil _, [some (.cl (ns.map PV.int)), none, some (.int y)], rfl, ?_⟩
    have p1 : powOk 10 18 = true := by decide
    simp [b_pow, p1]
    by_cases hc : (1000000000000000000 : Int) ≤ y
    · refine .inr ⟨hc, line_small (by omega), ?_⟩
      rw [hI]
      refine ⟨rfl, gr ++ [y], by simp, fun z hz => ?_, by rw [List.length_append]; simp; omega⟩
      rcases List.mem_append.mp hz with z1 | z1
      · exact g1 z z1
      · rw [List.mem_singleton.mp z1]
        omega
    · refine .inl ⟨by omega, ?_⟩
      rw [hI]
      exact ⟨rfl, gr, rfl, g1, by omega⟩
  · rw [hI] at hi
    obtain ⟨rfl, gr, rfl, g1, g2⟩ := hi
    rw [List.length_map] at g2
    refine ⟨stays_nil _, line_small (by rw [List.length_map]; omega), ?_⟩
    simp
    obtain ⟨J, hJ⟩ : ∃ J : Nat → List PV → PH → Prop, J = fun i acc h' => h' = h1 ++ [.lst (gr.map PV.int)] ∧ ∃ cs : List Int, acc = cs.map PV.int ∧ (∀ x ∈ cs, 0 ≤ x ∧ x < 2147483587) ∧ cs.length ≤ i := ⟨_, rfl⟩
    refine v_compE (l := [.cl (ns.map PV.int)]) (h1 := h1 ++ [.lst (gr.map PV.int)]) (by simp) rfl J (by rw [hJ]; exact ⟨rfl, [], rfl, by simp, Nat.le_refl _⟩) (fun i x acc h2 hx hi => ?_) (fun acc h2 hi => ?_)
    · rw [List.getElem?_map] at hx
      obtain ⟨y, hy, ex⟩ := Option.map_eq_some_iff.mp hx
      rw [hJ] at hi
      obtain ⟨rfl, cs, rfl, c1, c2⟩ := hi
      subst ex
      have hi : i < 63 := by
        have := (List.getElem?_eq_some_iff.mp hy).1
        omega
      refine ⟨stays_nil _, [some (.cl (ns.map PV.int)), some (.ref h1.length), some (.int y)], rfl, ?_⟩
      have bm := b_mod (h := h1 ++ [.lst (gr.map PV.int)]) (i := y) (show (2147483587 : Int) ≠ 0 by decide)
      rw [fmod_pos (by decide)] at bm
      simp [bm]
      refine ⟨line_small (by omega), ?_⟩
      rw [hJ]
      refine ⟨rfl, cs ++ [y % 2147483587], by simp, fun z hz => ?_, by rw [List.length_append]; simp; omega⟩
      rcases List.mem_append.mp hz with z1 | z1
      · exact c1 z z1
      · rw [List.mem_singleton.mp z1]
        exact ⟨Int.emod_nonneg _ (by decide), Int.emod_lt_of_pos _ (by decide)⟩
    · rw [hJ] at hi
      obtain ⟨rfl, cs, rfl, c1, c2⟩ := hi
      rw [List.length_map] at c2
      refine ⟨stays_nil _, line_small (by rw [List.length_map]; omega), ?_⟩
      rw [alloc_small _ (by simp)]
      simp
      have e : (h1 ++ [PO.lst (gr.map PV.int), PO.lst (cs.map PV.int), PO.lst [.ref h1.length, .int 0, .ref (h1.length + 1), .int 0]]).length = h1.length + 3 := by simp
      refine q _ ⟨⟨gr, 0, cs, 0, by simp, by simp, by simp, g1, c1, by omega, by decide, by decide, by decide⟩, by omega, by omega, by omega⟩ Fr.app e
/-! ### greatest common divisors -/
theorem gcd_step (a b : Nat) (hb : 0 < b) : Int.gcd (b : Int) ((a : Int) % (b : Int)) = Int.gcd (a : Int) (b : Int) := by
  have e : ((a : Int) % (b : Int)) = ((a % b : Nat) : Int) := by simp
  rw [e]
  show Nat.gcd _ _ = Nat.gcd _ _
  simp only [Int.natAbs_natCast]
  rw [Nat.gcd_comm b, ← Nat.gcd_rec, Nat.gcd_comm]
theorem common_eq (h0 : tbl 0 = F_common) {k : Nat} {h : PH} (a b : Int) : call tbl (k + 1) 0 [.int a, .int b] h = .ok (.int (Int.gcd a b : Nat)) h := by
  refine R.Sat.eq ?_
  rw [call_succ, h0]
  refine fn_sat rfl ?_
  simp only [F_common, startP, List.map, List.length, List.replicate, List.cons_append, List.nil_append]
  have ab : ∀ x : Int, biF .abs [.int x] h = .ok (.int (x.natAbs : Nat)) h := fun x => by
    show R.ok (PV.int (if x < 0 then -x else x)) h = _
    congr 2
    split <;> omega
  rw [x_cons]
  simp [ab, setAll]
  rw [x_cons]
  obtain ⟨I, hI⟩ : ∃ I : Nat → Env → PH → Prop, I = fun (n : Nat) (ρ : Env) h' => h' = h ∧ ∃ x : Nat, ρ = [some (.int (x : Nat)), some (.int (n : Nat))] ∧ Int.gcd x n = Int.gcd a b := ⟨_, rfl⟩
  refine x_whl I b.natAbs (by rw [hI]; exact ⟨rfl, a.natAbs, rfl, by simp [Int.gcd]⟩) ?_
  intro n ρ h2 hi
  rw [hI] at hi
  obtain ⟨rfl, x, rfl, g⟩ := hi
  by_cases hn : 0 < n
  · have bm := b_mod (h := h2) (i := (x : Int)) (show (n : Int) ≠ 0 by omega)
    rw [fmod_pos (by omega)] at bm
    simp [hn, bm, setAll]
    refine ⟨x % n, Nat.mod_lt _ hn, ?_⟩
    rw [hI]
    exact ⟨rfl, n, by simp, by rw [Int.natCast_emod, gcd_step x n hn]; exact g⟩
  · have : n = 0 := by omega
    subst this
    simp
    rw [← g]
    simp
/-- t over b in lowest terms, the bottom positive (b not nought) -/
def byOf (t b : Int) : Int := if b < 0 then -(Int.gcd t b : Nat) else (Int.gcd t b : Nat)
def lowP (t b : Int) : PV := .tup [.int (t.fdiv (byOf t b)), .int (b.fdiv (byOf t b))]
theorem byOf_ne {t b : Int} (hb : b ≠ 0) : byOf t b ≠ 0 := by
  have : Int.gcd t b ≠ 0 := fun z => hb (Int.gcd_eq_zero_iff.mp z).2
  unfold byOf
  split <;> omega
theorem byOf_le {t b : Int} (hb : b ≠ 0) : (byOf t b).natAbs ≤ b.natAbs := by
  have h1 : Int.gcd t b ∣ b.natAbs := by
    have := Int.natAbs_dvd_natAbs.mpr (Int.gcd_dvd_right t b)
    simpa using this
  have h2 := Nat.le_of_dvd (by omega) h1
  unfold byOf
  split <;> omega
theorem lowest_eq (h9 : tbl 9 = F_law_lowest) {k : Nat} {h : PH} {t b : Int} (hb : b ≠ 0) (hs : b.natAbs < 2 ^ 8000) : call tbl (k + 1) 9 [.int t, .int b] h = .ok (lowP t b) h := by
  refine R.Sat.eq ?_
  rw [call_succ, h9]
  refine fn_sat rfl ?_
  simp only [F_law_lowest, startP, List.map, List.length, List.replicate, List.cons_append, List.nil_append]
  have ab : ∀ x : Int, biF .abs [.int x] h = .ok (.int (x.natAbs : Nat)) h := fun x => by
    show R.ok (PV.int (if x < 0 then -x else x)) h = _
    congr 2
    split <;> omega
  rw [x_cons]
  simp [ab]
  rw [x_cons]
  simp [ab]
  rw [x_cons]
  obtain ⟨I, hI⟩ : ∃ I : Nat → Env → PH → Prop, I = fun (n : Nat) (ρ : Env) h' => h' = h ∧ ∃ x : Nat, ρ = [some (.int t), some (.int b), some (.int (x : Nat)), some (.int (n : Nat))] ∧ Int.gcd x n = Int.gcd t b := ⟨_, rfl⟩
  refine x_whl I b.natAbs (by rw [hI]; exact ⟨rfl, t.natAbs, rfl, by simp [Int.gcd]⟩) ?_
  intro n ρ h2 hi
  rw [hI] at hi
  obtain ⟨rfl, x, rfl, g⟩ := hi
  by_cases hn : 0 < n
  · have bm := b_mod (h := h2) (i := (x : Int)) (show (n : Int) ≠ 0 by omega)
    rw [fmod_pos (by omega)] at bm
    simp [hn, bm, setAll]
    refine ⟨x % n, Nat.mod_lt _ hn, ?_⟩
    rw [hI]
    exact ⟨rfl, n, by simp, by rw [Int.natCast_emod, gcd_step x n hn]; exact g⟩
  · have : n = 0 := by omega
    subst this
    have g' : (x : Int) = (Int.gcd t b : Nat) := by
      rw [← g]
      simp
    have dv : divOk (byOf t b) = true := div_ok (byOf_ne hb) (Nat.lt_of_le_of_lt (byOf_le hb) hs) (by decide) (by decide)
    simp
    rw [x_cons]
    by_cases hneg : b < 0
    · have e : byOf t b = -(x : Int) := by unfold byOf; rw [if_pos hneg, g']
      rw [e] at dv
      simp [hneg, b_fdiv, dv]
      simp [lowP, e]
    · have e : byOf t b = (x : Int) := by unfold byOf; rw [if_neg hneg, g']
      rw [e] at dv
      simp [hneg, b_fdiv, dv]
      simp [lowP, e]
end
end Sb

set_option Elab.async false
set_option linter.all false
set_option maxRecDepth 100000
set_option maxHeartbeats 4000000
/-! Sb: fractions and moves, known by the program and by the laws. -/
namespace Sb
open PySem
/-- a comprehension with no condition, as a map -/
theorem v_mapE {C : Calls} {tg : List Nat} {one : Bool} {k : ITK} {its : List E} {own : List Nat} {a : E} {ρ : Env} {h h1 : PH} {Q : PV → PH → Prop} {l items : List PV} {kp : Keep} (e1 : evGs C its ρ h = .ok l h1) (e2 : walkF k l h1 = some (items, kp)) (f : PV → PV) (P : PH → Prop) (h0 : P h1) (hk : ∀ h, P h → stays kp h) (hl : items.length ≤ 1000000)
    (hs : ∀ x ∈ items, ∀ h, P h → ∃ ρ1, setTg (wipeP ρ own) tg one x = some ρ1 ∧ (evG C a false ρ1 h).Sat fun v h2 => v = f x ∧ P h2)
    (hd : ∀ h, P h → Q (.ref h.length) (h ++ [.lst (items.map f)])) : (evG C (.comp a tg one k its none own) false ρ h).Sat Q := by
  refine v_compE e1 e2 (fun i acc h => P h ∧ acc = (items.take i).map f) ⟨h0, rfl⟩ (fun i x acc h hx hi => ?_) fun acc h hi => ?_
  · obtain ⟨p, rfl⟩ := hi
    have hm := List.mem_of_getElem? hx
    have hlt := (List.getElem?_eq_some_iff.mp hx).1
    obtain ⟨ρ1, q1, q2⟩ := hs x hm h p
    refine ⟨hk h p, ρ1, q1, ?_⟩
    rw [gc_none, sat_ok, if_pos rfl]
    refine q2.imp fun v h2 ⟨r1, r2⟩ => ⟨line_small (by simp; omega), r2, ?_⟩
    rw [r1, List.take_add_one, hx]
    simp
  · obtain ⟨p, rfl⟩ := hi
    refine ⟨hk h p, line_small (by simp; omega), ?_⟩
    rw [List.take_length]
    exact hd h p
theorem bools_map : ∀ bs : List Bool, boolsOf (bs.map PV.bl) = some bs
  | [] => rfl
  | b :: r => by
    show (boolsOf (r.map PV.bl)).map (b :: ·) = _
    rw [bools_map r]
    rfl
theorem all_ref {h : PH} {n : Nat} {bs : List Bool} (e : h[n]? = some (.lst (bs.map PV.bl))) : biF .all [.ref n] h = .ok (.bl (bs.all id)) h := by
  show (match (listOf h (.ref n)).bind boolsOf with | some bs => R.ok (PV.bl (bs.all id)) h | none => .no) = _
  have : (listOf h (.ref n)).bind boolsOf = some bs := by
    simp only [listOf, e, Option.bind_some, bools_map]
  rw [this]
theorem any_ref {h : PH} {n : Nat} {bs : List Bool} (e : h[n]? = some (.lst (bs.map PV.bl))) : biF .any [.ref n] h = .ok (.bl (bs.any id)) h := by
  show (match (listOf h (.ref n)).bind boolsOf with | some bs => R.ok (PV.bl (bs.any id)) h | none => .no) = _
  have : (listOf h (.ref n)).bind boolsOf = some bs := by
    simp only [listOf, e, Option.bind_some, bools_map]
  rw [this]
theorem inst_of {h : PH} {v : PV} {s t : Ty} (e : tyOf h v = some s) : biF .isinst [v, .ty t] h = .ok (.bl (isTy s t)) h := by
  show (match tyOf h v with | some s => R.ok (PV.bl (isTy s t)) h | none => .no) = _
  rw [e]
theorem ty_ref {h : PH} {m : Nat} (e : m < h.length) : tyOf h (.ref m) = some .list := by
  simp only [tyOf]
  rw [List.getElem?_eq_getElem e]
/-- a value whose lists lie below n, down to d levels -/
def vok (n : Nat) : Nat → PV → Prop
  | _, .non => True
  | _, .bl _ => True
  | _, .int i => i.natAbs < 2 ^ 100
  | _, .str _ => True
  | 0, .tup _ => True
  | d + 1, .tup l => ∀ x ∈ l, vok n d x
  | _, .ref m => m < n
  | _, .cl _ => False
  | _, .ty _ => False
def kind : PV → Ty
  | .non => .none
  | .bl _ => .bool
  | .int _ => .int
  | .str _ => .str
  | .tup _ => .tuple
  | _ => .list
theorem vok.ty {n d : Nat} {v : PV} {h : PH} (o : vok n d v) (hn : n ≤ h.length) : tyOf h v = some (kind v) := by
  cases v with
  | ref m =>
    have : m < n := by cases d <;> exact o
    exact ty_ref (by omega)
  | cl l => cases d <;> exact o.elim
  | ty l => cases d <;> exact o.elim
  | _ => rfl
theorem vok.mono {n m : Nat} (hn : n ≤ m) : ∀ {d : Nat} {v : PV}, vok n d v → vok m d v
  | d, .non, o => by cases d <;> trivial
  | d, .bl _, o => by cases d <;> trivial
  | d, .int i, o => by cases d <;> exact o
  | d, .str _, o => by cases d <;> trivial
  | 0, .tup _, o => trivial
  | d + 1, .tup l, o => fun x hx => (o x hx).mono hn
  | d, .ref k, o => by cases d <;> exact Nat.lt_of_lt_of_le o hn
  | d, .cl _, o => by cases d <;> exact o.elim
  | d, .ty _, o => by cases d <;> exact o.elim
def whB : PV → Bool
  | .int _ => true
  | _ => false
def frB : PV → Bool
  | .tup [.int a, .int b] => decide (0 < b) && decide (Int.gcd a b = 1)
  | _ => false
def topNz : PV → Bool
  | .tup (.int a :: _) => decide (a ≠ 0)
  | _ => false
def mvB : PV → Bool
  | .tup [x, y] => frB x && frB y && topNz x
  | _ => false
theorem whB_kind (v : PV) : (isTy (kind v) .int && !isTy (kind v) .bool) = whB v := by cases v <;> rfl
theorem bi_len_tup (h : PH) (l : List PV) : biF .len [.tup l] h = .ok (.int l.length) h := rfl
section
variable {tbl : Nat → Fn}
theorem whole_eq {f : Nat} (h1 : tbl f = F_is_whole) {k n d : Nat} {h : PH} {v : PV} (o : vok n d v) (hn : n ≤ h.length) : call tbl (k + 1) f [v] h = .ok (.bl (whB v)) h := by
  refine R.Sat.eq ?_
  rw [call_succ, h1]
  refine fn_sat rfl ?_
  simp only [F_is_whole, startP, List.map, List.length, List.replicate, List.cons_append, List.nil_append]
  have t := o.ty hn
  simp [inst_of t]
  rw [← whB_kind]
  cases isTy (kind v) .int <;> simp
theorem wholeL_eq {f : Nat} (h1 : tbl f = F_law_whole) {k n d : Nat} {h : PH} {v : PV} (o : vok n d v) (hn : n ≤ h.length) : call tbl (k + 1) f [v] h = .ok (.bl (whB v)) h := whole_eq (h1.trans rfl) o hn
theorem kind_tup {v : PV} (e : kind v = .tuple) : ∃ l, v = .tup l := by cases v <;> first | exact ⟨_, rfl⟩ | cases e
theorem frB_not {v : PV} (e : kind v ≠ .tuple) : frB v = false := by cases v <;> first | rfl | exact absurd rfl e
theorem mvB_not {v : PV} (e : kind v ≠ .tuple) : mvB v = false := by cases v <;> first | rfl | exact absurd rfl e
theorem isTy_tuple {t : Ty} : isTy t .tuple = decide (t = .tuple) := by cases t <;> rfl
theorem pair_of {l : List PV} (e : l.length = 2) : ∃ x y, l = [x, y] := by
  match l, e with
  | [x, y], _ => exact ⟨x, y, rfl⟩
theorem frB_len {l : List PV} (e : l.length ≠ 2) : frB (.tup l) = false := by
  match l, e with
  | [], _ => rfl
  | [_], _ => cases ‹PV› <;> rfl
  | [_, _], e => exact absurd rfl e
  | x :: y :: z :: r, _ => cases x <;> cases y <;> rfl
theorem mvB_len {l : List PV} (e : l.length ≠ 2) : mvB (.tup l) = false := by
  match l, e with
  | [], _ => rfl
  | [_], _ => rfl
  | [_, _], e => exact absurd rfl e
  | x :: y :: z :: r, _ => rfl
theorem frB_wh {x y : PV} (e : (whB x && whB y) = false) : frB (.tup [x, y]) = false := by
  cases x <;> cases y <;> first | rfl | cases e
theorem wh_int {x : PV} (e : whB x = true) : ∃ i, x = .int i := by cases x <;> first | exact ⟨_, rfl⟩ | cases e
theorem isfr_sat (h0 : tbl 0 = F_common) (h1 : tbl 1 = F_is_whole) (h2 : tbl 2 = F_is_fraction) {k n d : Nat} {h : PH} {v : PV} (o : vok n (d + 1) v) (hn : n ≤ h.length) {Q : PV → PH → Prop} (q : ∀ t, Q (.bl (frB v)) (h ++ t)) : (call tbl (k + 2) 2 [v] h).Sat Q := by
  rw [call_succ, h2]
  refine fn_sat rfl ?_
  simp only [F_is_fraction, startP, List.map, List.length, List.replicate, List.cons_append, List.nil_append]
  have t := o.ty hn
  have q0 : Q (.bl (frB v)) h := by simpa using q []
  rw [x_cons]
  by_cases hv : kind v = .tuple
  · obtain ⟨l, rfl⟩ := kind_tup hv
    by_cases hl : l.length = 2
    · obtain ⟨x, y, rfl⟩ := pair_of hl
      have ox : vok n d x := o x (by simp)
      have oy : vok n d y := o y (by simp)
      simp [inst_of t, isTy_tuple, hv, bi_len_tup]
      refine v_mapE (l := [.tup [x, y]]) (items := [x, y]) (kp := []) (h1 := h) (by simp) rfl (fun v => .bl (whB v)) (fun h' => h' = h) rfl (fun _ _ => stays_nil _) (by simp) (fun z hz h' e => ?_) fun h' e => ?_
      · subst e
        refine ⟨[some (.tup [x, y]), some z], rfl, ?_⟩
        have oz : vok n d z := o z hz
        simp [whole_eq h1 oz hn]
      · subst e
        have e : (h' ++ [PO.lst [PV.bl (whB x), .bl (whB y)]])[h'.length]? = some (.lst ([whB x, whB y].map PV.bl)) := by simp
        simp [all_ref e]
        by_cases hw : (whB x && whB y) = true
        · obtain ⟨a, rfl⟩ := wh_int (Bool.and_eq_true_iff.mp hw).1
          obtain ⟨b, rfl⟩ := wh_int (Bool.and_eq_true_iff.mp hw).2
          simp [whB]
          have i1 : ∀ h : PH, idxop (.tup [.int a, .int b]) (.int 1) h = .ok (.int b) h := fun h => idx_tup rfl
          have i0 : ∀ h : PH, idxop (.tup [.int a, .int b]) (.int 0) h = .ok (.int a) h := fun h => idx_tup rfl
          have qq := q [PO.lst [PV.bl (whB (.int a)), .bl (whB (.int b))]]
          by_cases hb : 0 < b
          · have ge : decide (((a.gcd b : Nat) : Int) = 1) = decide (a.gcd b = 1) := decide_eq_decide.mpr (by omega)
            simp [i1, i0, hb, common_eq h0, ge]
            simpa [frB, hb, whB] using qq
          · simp [i1, i0, hb]
            simpa [frB, hb, whB] using qq
        · have hw' : (whB x && whB y) = false := by simpa using hw
          have qq := q [PO.lst [PV.bl (whB x), .bl (whB y)]]
          rw [frB_wh hw'] at qq
          have : ¬ (whB x = true ∧ whB y = true) := fun z => hw (by rw [z.1, z.2]; rfl)
          rcases hx : whB x <;> rcases hy : whB y <;> simp [hx, hy] at * <;> exact qq
    · have hl' : ¬ ((l.length : Int) = 2) := by omega
      rw [frB_len hl] at q0
      simp [inst_of t, isTy_tuple, hv, bi_len_tup, hl', q0]
  · rw [frB_not hv] at q0
    simp [inst_of t, isTy_tuple, hv, q0]
theorem fr_tup {x : PV} (e : frB x = true) : ∃ a b, x = .tup [.int a, .int b] ∧ 0 < b ∧ Int.gcd a b = 1 := by
  cases x with
  | tup l =>
    by_cases hl : l.length = 2
    · obtain ⟨x, y, rfl⟩ := pair_of hl
      by_cases hw : (whB x && whB y) = true
      · obtain ⟨a, rfl⟩ := wh_int (Bool.and_eq_true_iff.mp hw).1
        obtain ⟨b, rfl⟩ := wh_int (Bool.and_eq_true_iff.mp hw).2
        have := Bool.and_eq_true_iff.mp e
        exact ⟨a, b, rfl, of_decide_eq_true this.1, of_decide_eq_true this.2⟩
      · rw [frB_wh (by simpa using hw)] at e
        cases e
    · rw [frB_len hl] at e
      cases e
  | _ => cases e
theorem eq_pair (h : PH) (a b c d : Int) : eqP h (.tup [.int a, .int b]) (.tup [.int c, .int d]) = some (decide (a = c) && decide (b = d)) := by
  have : eqP h (.tup [.int a, .int b]) (.tup [.int c, .int d]) = some ((a == c) && ((b == d) && true)) := by simp [eqP, pd, mapO, PyData.eqv, PyData.eqvAll]
  rw [this, Bool.and_true]
  rfl
theorem c_neT (h : PH) (a b : List PV) : cmpop .NotEq (.tup a) (.tup b) h = ofO ((eqP h (.tup a) (.tup b)).map fun b => PV.bl (!b)) h := rfl
theorem c_eqT (h : PH) (a b : List PV) : cmpop .Eq (.tup a) (.tup b) h = ofO ((eqP h (.tup a) (.tup b)).map PV.bl) h := rfl
theorem ismv_sat (h0 : tbl 0 = F_common) (h1 : tbl 1 = F_is_whole) (h2 : tbl 2 = F_is_fraction) (h3 : tbl 3 = F_is_move) {k n d : Nat} {h : PH} {v : PV} (o : vok n (d + 2) v) (hn : n ≤ h.length) {Q : PV → PH → Prop} (q : ∀ t, Q (.bl (mvB v)) (h ++ t)) : (call tbl (k + 3) 3 [v] h).Sat Q := by
  rw [call_succ, h3]
  refine fn_sat rfl ?_
  simp only [F_is_move, startP, List.map, List.length, List.replicate, List.cons_append, List.nil_append]
  have t := o.ty hn
  have q0 : Q (.bl (mvB v)) h := by simpa using q []
  rw [x_cons]
  by_cases hv : kind v = .tuple
  · obtain ⟨l, rfl⟩ := kind_tup hv
    by_cases hl : l.length = 2
    · obtain ⟨x, y, rfl⟩ := pair_of hl
      have ox : vok n (d + 1) x := o x (by simp)
      have oy : vok n (d + 1) y := o y (by simp)
      simp [inst_of t, isTy_tuple, hv, bi_len_tup]
      refine v_mapE (l := [.tup [x, y]]) (items := [x, y]) (kp := []) (h1 := h) (by simp) rfl (fun v => .bl (frB v)) (fun h' => ∃ t, h' = h ++ t) ⟨[], by simp⟩ (fun _ _ => stays_nil _) (by simp) (fun z hz h' e => ?_) fun h' e => ?_
      · obtain ⟨t, rfl⟩ := e
        refine ⟨[some (.tup [x, y]), some z], rfl, ?_⟩
        have oz : vok n (d + 1) z := o z hz
        simp
        exact isfr_sat h0 h1 h2 oz (by simp; omega) fun t2 => ⟨rfl, t ++ t2, by simp⟩
      · obtain ⟨t, e0⟩ := e
        have e : (h' ++ [PO.lst [PV.bl (frB x), .bl (frB y)]])[h'.length]? = some (.lst ([frB x, frB y].map PV.bl)) := by simp
        have qq := q (t ++ [PO.lst [PV.bl (frB x), .bl (frB y)]])
        rw [← List.append_assoc, ← e0] at qq
        simp [all_ref e]
        generalize h' ++ [PO.lst [PV.bl (frB x), .bl (frB y)]] = h2 at qq ⊢
        clear e
        by_cases hw : (frB x && frB y) = true
        · have fx := (Bool.and_eq_true_iff.mp hw).1
          have fy := (Bool.and_eq_true_iff.mp hw).2
          obtain ⟨a, b, rfl, p1, p2⟩ := fr_tup fx
          have i0 : idxop (.tup [.tup [.int a, .int b], y]) (.int 0) h2 = .ok (.tup [.int a, .int b]) h2 := idx_tup rfl
          simp [fx, fy, i0, c_neT, eq_pair]
          have e : mvB (.tup [.tup [.int a, .int b], y]) = !(decide (a = 0) && decide (b = 1)) := by
            show (frB _ && frB y && decide (a ≠ 0)) = _
            rw [fx, fy]
            by_cases ha : a = 0
            · subst ha
              have : b = 1 := by
                simp at p2
                omega
              subst this
              rfl
            · simp [ha]
          rw [e, Bool.not_and] at qq
          exact qq
        · have hw' : (frB x && frB y) = false := by simpa using hw
          have : mvB (.tup [x, y]) = false := by
            show (frB x && frB y && topNz x) = false
            rw [hw']
            rfl
          rw [this] at qq
          rcases hx : frB x <;> rcases hy : frB y <;> simp [hx, hy] at * <;> exact qq
    · have hl' : ¬ ((l.length : Int) = 2) := by omega
      rw [mvB_len hl] at q0
      simp [inst_of t, isTy_tuple, hv, bi_len_tup, hl', q0]
  · rw [mvB_not hv] at q0
    simp [inst_of t, isTy_tuple, hv, q0]
theorem low_is {a b : Int} (hb : 0 < b) : (decide (a.fdiv (byOf a b) = a) && decide (b.fdiv (byOf a b) = b)) = decide (Int.gcd a b = 1) := by
  have e : byOf a b = (Int.gcd a b : Nat) := by unfold byOf; rw [if_neg (by omega)]
  have hz := byOf_ne (t := a) (show b ≠ 0 by omega)
  have h0 : 0 < ((Int.gcd a b : Nat) : Int) := by omega
  rw [e, fdiv_pos h0, fdiv_pos h0]
  by_cases hg : Int.gcd a b = 1
  · rw [hg]
    simp
  · rw [decide_eq_false hg]
    have : ¬ b / ((Int.gcd a b : Nat) : Int) = b := by
      intro z
      have z1 : b / ((Int.gcd a b : Nat) : Int) < b := Int.ediv_lt_self_of_pos_of_ne_one hb (by omega)
      omega
    rw [decide_eq_false this, Bool.and_false]
theorem b100 {x : Int} (h : x.natAbs < 2 ^ 100) : x.natAbs < 2 ^ 8000 := Nat.lt_of_lt_of_le h (Nat.pow_le_pow_right (by decide) (by decide))
theorem isfrL_eq (h8 : tbl 8 = F_law_whole) (h9 : tbl 9 = F_law_lowest) (h10 : tbl 10 = F_law_is_fraction) {k n d : Nat} {h : PH} {v : PV} (o : vok n (d + 1) v) (hn : n ≤ h.length) : call tbl (k + 2) 10 [v] h = .ok (.bl (frB v)) h := by
  refine R.Sat.eq ?_
  rw [call_succ, h10]
  refine fn_sat rfl ?_
  simp only [F_law_is_fraction, startP, List.map, List.length, List.replicate, List.cons_append, List.nil_append]
  have t := o.ty hn
  rw [x_cons]
  by_cases hv : kind v = .tuple
  · obtain ⟨l, rfl⟩ := kind_tup hv
    by_cases hl : l.length = 2
    · obtain ⟨x, y, rfl⟩ := pair_of hl
      have ox : vok n d x := o x (by simp)
      have oy : vok n d y := o y (by simp)
      have i1 : idxop (.tup [x, y]) (.int 1) h = .ok y h := idx_tup rfl
      have i0 : idxop (.tup [x, y]) (.int 0) h = .ok x h := idx_tup rfl
      by_cases hw : (whB x && whB y) = true
      · obtain ⟨a, rfl⟩ := wh_int (Bool.and_eq_true_iff.mp hw).1
        obtain ⟨b, rfl⟩ := wh_int (Bool.and_eq_true_iff.mp hw).2
        have hbb : b.natAbs < 2 ^ 100 := by cases d <;> exact oy
        by_cases hb : 0 < b
        · simp [inst_of t, isTy_tuple, hv, bi_len_tup, i0, i1, wholeL_eq h8 ox hn, wholeL_eq h8 oy hn, whB, hb, lowest_eq h9 (show b ≠ 0 by omega) (b100 hbb), lowP, c_eqT, eq_pair]
          rw [← Bool.decide_and, Bool.decide_and, low_is hb]
          simp [frB, hb]
        · simp [inst_of t, isTy_tuple, hv, bi_len_tup, i0, i1, wholeL_eq h8 ox hn, wholeL_eq h8 oy hn, whB, hb]
          simp [frB, hb]
      · have hw' : (whB x && whB y) = false := by simpa using hw
        rw [frB_wh hw']
        rcases hx : whB x <;> rcases hy : whB y <;> simp [hx, hy] at hw <;> simp [inst_of t, isTy_tuple, hv, bi_len_tup, i0, i1, wholeL_eq h8 ox hn, wholeL_eq h8 oy hn, hx, hy]
    · have hl' : ¬ ((l.length : Int) = 2) := by omega
      rw [frB_len hl]
      simp [inst_of t, isTy_tuple, hv, bi_len_tup, hl']
  · rw [frB_not hv]
    simp [inst_of t, isTy_tuple, hv]
theorem ismvL_eq (h8 : tbl 8 = F_law_whole) (h9 : tbl 9 = F_law_lowest) (h10 : tbl 10 = F_law_is_fraction) (h11 : tbl 11 = F_law_is_move) {k n d : Nat} {h : PH} {v : PV} (o : vok n (d + 2) v) (hn : n ≤ h.length) : call tbl (k + 3) 11 [v] h = .ok (.bl (mvB v)) h := by
  refine R.Sat.eq ?_
  rw [call_succ, h11]
  refine fn_sat rfl ?_
  simp only [F_law_is_move, startP, List.map, List.length, List.replicate, List.cons_append, List.nil_append]
  have t := o.ty hn
  rw [x_cons]
  by_cases hv : kind v = .tuple
  · obtain ⟨l, rfl⟩ := kind_tup hv
    by_cases hl : l.length = 2
    · obtain ⟨x, y, rfl⟩ := pair_of hl
      have ox : vok n (d + 1) x := o x (by simp)
      have oy : vok n (d + 1) y := o y (by simp)
      have i1 : idxop (.tup [x, y]) (.int 1) h = .ok y h := idx_tup rfl
      have i0 : idxop (.tup [x, y]) (.int 0) h = .ok x h := idx_tup rfl
      have em : mvB (.tup [x, y]) = (frB x && frB y && topNz x) := rfl
      simp [inst_of t, isTy_tuple, hv, bi_len_tup, i0, i1, isfrL_eq h8 h9 h10 ox hn, isfrL_eq h8 h9 h10 oy hn]
      rw [em]
      by_cases hx : frB x = true
      · obtain ⟨a, b, rfl, p1, p2⟩ := fr_tup hx
        have i2 : idxop (.tup [.int a, .int b]) (.int 0) h = .ok (.int a) h := idx_tup rfl
        by_cases hy : frB y = true
        · simp [hx, hy, i2, topNz]
        · simp [hx, hy]
      · simp [hx]
    · have hl' : ¬ ((l.length : Int) = 2) := by omega
      rw [mvB_len hl]
      simp [inst_of t, isTy_tuple, hv, bi_len_tup, hl']
  · rw [mvB_not hv]
    simp [inst_of t, isTy_tuple, hv]
/-- the laws' same: two truths -/
theorem same_bl (h7 : tbl 7 = F_law_same) {k : Nat} {h : PH} (a b : Bool) : call tbl (k + 1) 7 [.bl a, .bl b] h = .ok (.bl (decide (a = b))) h := by
  refine R.Sat.eq ?_
  rw [call_succ, h7]
  refine fn_sat rfl ?_
  simp only [F_law_same, startP, List.map, List.length, List.replicate, List.cons_append, List.nil_append]
  have t : ∀ (x : Bool) (y : Ty), biF .isinst [.bl x, .ty y] h = .ok (.bl (isTy .bool y)) h := fun x y => rfl
  have t2 : biF .isinst [.bl b, .tup [.ty .tuple, .ty .list]] h = .ok (.bl false) h := rfl
  simp [x_cons, t2, t, isTy, isNonP]
end
end Sb

set_option Elab.async false
set_option linter.all false
set_option maxRecDepth 100000
set_option maxHeartbeats 4000000
/-! Sb: fractions as rational numbers. -/
namespace Sb
open PySem
def fq (q : Rat) : PV := .tup [.int q.num, .int (q.den : Nat)]
def mq (a b : Rat) : PV := .tup [fq a, fq b]
theorem low_fq {t b : Int} (hb : b ≠ 0) : lowP t b = fq (Rat.divInt t b) := by
  unfold lowP fq
  rw [Rat.num_divInt, Rat.den_divInt, if_neg hb, Int.gcd_comm b t]
  have hg : (Int.gcd t b : Nat) ≠ 0 := fun z => hb (Int.gcd_eq_zero_iff.mp z).2
  have d1 : ((Int.gcd t b : Nat) : Int) ∣ t := Int.gcd_dvd_left ..
  have d2 : ((Int.gcd t b : Nat) : Int) ∣ b := Int.gcd_dvd_right ..
  generalize hgg : Int.gcd t b = g at hg d1 d2
  unfold byOf
  rw [hgg]
  obtain ⟨x, rfl⟩ := d1
  obtain ⟨y, rfl⟩ := d2
  have gz : (g : Int) ≠ 0 := by omega
  have gp : (0 : Int) < g := by omega
  by_cases hn : (g : Int) * y < 0
  · rw [if_pos hn]
    have yn : y < 0 := by
      rcases Int.lt_or_le y 0 with z | z
      · exact z
      · have := Int.mul_nonneg (Int.le_of_lt gp) z
        omega
    have e1 : ((g : Int) * x).fdiv (-(g : Int)) = -x := by
      rw [show (g : Int) * x = (-(g : Int)) * (-x) by rw [Int.neg_mul_neg]]
      exact Int.mul_fdiv_cancel_left _ (by omega)
    have e2 : ((g : Int) * y).fdiv (-(g : Int)) = -y := by
      rw [show (g : Int) * y = (-(g : Int)) * (-y) by rw [Int.neg_mul_neg]]
      exact Int.mul_fdiv_cancel_left _ (by omega)
    rw [e1, e2, Int.sign_eq_neg_one_of_neg hn]
    have e3 : (-1 : Int) * ((g : Int) * x) / (g : Int) = -x := by
      rw [show (-1 : Int) * ((g : Int) * x) = (g : Int) * (-x) by rw [Int.mul_neg]; omega]
      exact Int.mul_ediv_cancel_left _ gz
    have e4 : ((g : Int) * y).natAbs / g = y.natAbs := by
      rw [Int.natAbs_mul, Int.natAbs_natCast, Nat.mul_div_cancel_left _ (by omega)]
    rw [e3, e4]
    rw [show ((y.natAbs : Nat) : Int) = -y by omega]
  · rw [if_neg hn]
    have yz : y ≠ 0 := fun z => hb (by rw [z, Int.mul_zero])
    have yp : 0 < y := by
      rcases Int.lt_or_le 0 y with z | z
      · exact z
      · have : (g : Int) * (-y) > 0 := Int.mul_pos gp (by omega)
        rw [Int.mul_neg] at this
        omega
    have e1 : ((g : Int) * x).fdiv (g : Int) = x := Int.mul_fdiv_cancel_left _ gz
    have e2 : ((g : Int) * y).fdiv (g : Int) = y := Int.mul_fdiv_cancel_left _ gz
    rw [e1, e2, Int.sign_eq_one_of_pos (Int.mul_pos gp yp), Int.one_mul, Int.mul_ediv_cancel_left _ gz]
    have e4 : ((g : Int) * y).natAbs / g = y.natAbs := by
      rw [Int.natAbs_mul, Int.natAbs_natCast, Nat.mul_div_cancel_left _ (by omega)]
    rw [e4]
    rw [show ((y.natAbs : Nat) : Int) = y by omega]
/-- both numbers below 2 ^ n -/
structure Qs (n : Nat) (q : Rat) : Prop where
  num : q.num.natAbs < 2 ^ n
  den : q.den < 2 ^ n
theorem Qs.mono {n m : Nat} {q : Rat} (h : Qs n q) (l : n ≤ m) : Qs m q := ⟨Nat.lt_of_lt_of_le h.num (Nat.pow_le_pow_right (by decide) l), Nat.lt_of_lt_of_le h.den (Nat.pow_le_pow_right (by decide) l)⟩
theorem divInt_le {t b : Int} (hb : b ≠ 0) : (Rat.divInt t b).num.natAbs ≤ t.natAbs ∧ (Rat.divInt t b).den ≤ b.natAbs := by
  rw [Rat.num_divInt, Rat.den_divInt, if_neg hb]
  refine ⟨?_, Nat.div_le_self _ _⟩
  rcases Int.lt_or_lt_of_ne hb with z | z
  · rw [Int.sign_eq_neg_one_of_neg z]
    refine Nat.le_trans (Int.natAbs_ediv_le_natAbs _ _) ?_
    omega
  · rw [Int.sign_eq_one_of_pos z, Int.one_mul]
    exact Int.natAbs_ediv_le_natAbs _ _
theorem Qs.divInt {n : Nat} {t b : Int} (hb : b ≠ 0) (h1 : t.natAbs < 2 ^ n) (h2 : b.natAbs < 2 ^ n) : Qs n (Rat.divInt t b) := ⟨Nat.lt_of_le_of_lt (divInt_le hb).1 h1, Nat.lt_of_le_of_lt (divInt_le hb).2 h2⟩
theorem mul_lt_pow {a b n m : Nat} (h1 : a < 2 ^ n) (h2 : b < 2 ^ m) : a * b < 2 ^ (n + m) := by
  rw [Nat.pow_add]
  exact Nat.mul_lt_mul'' h1 h2
theorem den_ne (q : Rat) : ((q.den : Nat) : Int) ≠ 0 := by
  have := q.den_nz
  omega
theorem dd_ne (a b : Rat) : ((a.den : Nat) : Int) * ((b.den : Nat) : Int) ≠ 0 := Int.mul_ne_zero (den_ne a) (den_ne b)
theorem add_divInt (a b : Rat) : a + b = Rat.divInt (a.num * b.den + b.num * a.den) (a.den * b.den) := by
  rw [Rat.add_def', ← Rat.divInt_ofNat, Int.natCast_mul]
theorem sub_divInt (a b : Rat) : a - b = Rat.divInt (a.num * b.den - b.num * a.den) (a.den * b.den) := by
  rw [Rat.sub_def', ← Rat.divInt_ofNat, Int.natCast_mul]
theorem mul_divInt (a b : Rat) : a * b = Rat.divInt (a.num * b.num) (a.den * b.den) := by
  rw [Rat.mul_def', ← Rat.divInt_ofNat, Int.natCast_mul]
theorem div_divInt (a b : Rat) (hb : b.num ≠ 0) : a / b = Rat.divInt (a.num * b.den) (a.den * b.num) := by
  rw [Rat.div_def, Rat.inv_def]
  conv => lhs; rw [← Rat.num_divInt_den a]
  rw [Rat.divInt_mul_divInt]
section
variable {n m : Nat} {a b : Rat}
theorem Qs.nd (h : Qs n a) (g : Qs m b) : (a.num * (b.den : Int)).natAbs < 2 ^ (n + m) := by
  rw [Int.natAbs_mul]
  exact mul_lt_pow h.num (by simpa using g.den)
theorem Qs.nn (h : Qs n a) (g : Qs m b) : (a.num * b.num).natAbs < 2 ^ (n + m) := by
  rw [Int.natAbs_mul]
  exact mul_lt_pow h.num g.num
theorem Qs.dn (h : Qs n a) (g : Qs m b) : ((a.den : Int) * b.num).natAbs < 2 ^ (n + m) := by
  rw [Int.natAbs_mul]
  exact mul_lt_pow (by simpa using h.den) g.num
theorem Qs.dd (h : Qs n a) (g : Qs m b) : ((a.den : Int) * (b.den : Int)).natAbs < 2 ^ (n + m) := by
  rw [Int.natAbs_mul]
  exact mul_lt_pow (by simpa using h.den) (by simpa using g.den)
theorem pow_s (k : Nat) : 2 ^ (k + 1) = 2 ^ k + 2 ^ k := by rw [Nat.pow_succ]; omega
theorem Qs.add (h : Qs n a) (g : Qs m b) : Qs (n + m + 1) (a + b) := by
  rw [add_divInt]
  have h1 := h.nd g
  have h2 := g.nd h
  rw [Nat.add_comm m n] at h2
  have h3 := h.dd g
  have h4 := pow_s (n + m)
  exact .divInt (dd_ne a b) (by omega) (by omega)
theorem Qs.sub (h : Qs n a) (g : Qs m b) : Qs (n + m + 1) (a - b) := by
  rw [sub_divInt]
  have h1 := h.nd g
  have h2 := g.nd h
  rw [Nat.add_comm m n] at h2
  have h3 := h.dd g
  have h4 := pow_s (n + m)
  exact .divInt (dd_ne a b) (by omega) (by omega)
theorem Qs.mul (h : Qs n a) (g : Qs m b) : Qs (n + m) (a * b) := by
  rw [mul_divInt]
  exact .divInt (dd_ne a b) (h.nn g) (h.dd g)
theorem Qs.div (h : Qs n a) (g : Qs m b) (hb : b.num ≠ 0) : Qs (n + m) (a / b) := by
  rw [div_divInt a b hb]
  exact .divInt (Int.mul_ne_zero (den_ne a) hb) (h.nd g) (h.dn g)
theorem Qs.neg (h : Qs n a) : Qs n (-a) := ⟨by rw [Rat.neg_num, Int.natAbs_neg]; exact h.num, h.den⟩
theorem Qs.inv (h : Qs n a) (hb : a.num ≠ 0) : Qs n a⁻¹ := by
  rw [Rat.inv_def]
  exact .divInt hb (by simpa using h.den) h.num
theorem Qs.pos (h : Qs n a) : 0 < n := by
  cases n with
  | zero =>
    have := h.den
    have := a.den_nz
    omega
  | succ n => exact Nat.succ_pos _
end
theorem num_ne {q : Rat} (h : q ≠ 0) : q.num ≠ 0 := fun z => h (Rat.num_eq_zero.mp z)
theorem fq0 (q : Rat) (h : PH) : idxop (fq q) (.int 0) h = .ok (.int q.num) h := idx_tup rfl
theorem fq1 (q : Rat) (h : PH) : idxop (fq q) (.int 1) h = .ok (.int (q.den : Nat)) h := idx_tup rfl
theorem mq0 (a b : Rat) (h : PH) : idxop (mq a b) (.int 0) h = .ok (fq a) h := idx_tup rfl
theorem mq1 (a b : Rat) (h : PH) : idxop (mq a b) (.int 1) h = .ok (fq b) h := idx_tup rfl
theorem pow_8000 {x n : Nat} (h : x < 2 ^ n) (l : n ≤ 8000) : x < 2 ^ 8000 := Nat.lt_of_lt_of_le h (Nat.pow_le_pow_right (by decide) l)
section
variable {tbl : Nat → Fn}
theorem lowq (h9 : tbl 9 = F_law_lowest) {k : Nat} {h : PH} {t b : Int} (hb : b ≠ 0) (hs : b.natAbs < 2 ^ 8000) : call tbl (k + 1) 9 [.int t, .int b] h = .ok (fq (Rat.divInt t b)) h := by rw [lowest_eq h9 hb hs, low_fq hb]
theorem frac_eq (h0 : tbl 0 = F_common) (h15 : tbl 15 = F_fraction_of) {k : Nat} {h : PH} {t b : Int} (hb : b ≠ 0) (hs : b.natAbs < 2 ^ 8000) : call tbl (k + 2) 15 [.int t, .int b] h = .ok (fq (Rat.divInt t b)) h := by
  rw [← low_fq hb]
  refine R.Sat.eq ?_
  rw [call_succ, h15]
  refine fn_sat rfl ?_
  simp only [F_fraction_of, startP, List.map, List.length, List.replicate, List.cons_append, List.nil_append]
  have dv : divOk (byOf t b) = true := div_ok (byOf_ne hb) (Nat.lt_of_le_of_lt (byOf_le hb) hs) (by decide) (by decide)
  rw [x_cons]
  simp [hb]
  rw [x_cons]
  simp [common_eq h0]
  rw [x_cons]
  by_cases hneg : b < 0
  · have e : byOf t b = -((Int.gcd t b : Nat) : Int) := by unfold byOf; rw [if_pos hneg]
    rw [e] at dv
    simp [hneg, b_fdiv, dv]
    simp [lowP, e]
  · have e : byOf t b = ((Int.gcd t b : Nat) : Int) := by unfold byOf; rw [if_neg hneg]
    rw [e] at dv
    simp [hneg, b_fdiv, dv]
    simp [lowP, e]
section
variable {k n m : Nat} {h : PH} {a b : Rat}
theorem mok (h : x.natAbs < 2 ^ n) (g : y.natAbs < 2 ^ m) (h0 : 0 < n) (g0 : 0 < m) (l : n + m ≤ 8000) : mulOk x y = true := mul_ok h g h0 g0 (by omega)
theorem plus_eq (h0 : tbl 0 = F_common) (h15 : tbl 15 = F_fraction_of) (h16 : tbl 16 = F_plus_of) (ha : Qs n a) (hb : Qs m b) (l : n + m ≤ 8000) : call tbl (k + 3) 16 [fq a, fq b] h = .ok (fq (a + b)) h := by
  refine R.Sat.eq ?_
  rw [call_succ, h16]
  refine fn_sat rfl ?_
  simp only [F_plus_of, startP, List.map, List.length, List.replicate, List.cons_append, List.nil_append]
  have m1 : mulOk a.num (b.den : Nat) = true := mok ha.num (by simpa using hb.den) ha.pos hb.pos l
  have m2 : mulOk b.num (a.den : Nat) = true := mok hb.num (by simpa using ha.den) hb.pos ha.pos (by omega)
  have m3 : mulOk (a.den : Nat) (b.den : Nat) = true := mok (by simpa using ha.den) (by simpa using hb.den) ha.pos hb.pos l
  simp [fq0, fq1, b_mul m1, b_mul m2, b_mul m3, frac_eq h0 h15 (dd_ne a b) (pow_8000 (ha.dd hb) l), add_divInt]
theorem less_eq (h0 : tbl 0 = F_common) (h15 : tbl 15 = F_fraction_of) (h17 : tbl 17 = F_less_of) (ha : Qs n a) (hb : Qs m b) (l : n + m ≤ 8000) : call tbl (k + 3) 17 [fq a, fq b] h = .ok (fq (a - b)) h := by
  refine R.Sat.eq ?_
  rw [call_succ, h17]
  refine fn_sat rfl ?_
  simp only [F_less_of, startP, List.map, List.length, List.replicate, List.cons_append, List.nil_append]
  have m1 : mulOk a.num (b.den : Nat) = true := mok ha.num (by simpa using hb.den) ha.pos hb.pos l
  have m2 : mulOk b.num (a.den : Nat) = true := mok hb.num (by simpa using ha.den) hb.pos ha.pos (by omega)
  have m3 : mulOk (a.den : Nat) (b.den : Nat) = true := mok (by simpa using ha.den) (by simpa using hb.den) ha.pos hb.pos l
  simp [fq0, fq1, b_mul m1, b_mul m2, b_mul m3, frac_eq h0 h15 (dd_ne a b) (pow_8000 (ha.dd hb) l), sub_divInt]
theorem times_eq (h0 : tbl 0 = F_common) (h15 : tbl 15 = F_fraction_of) (h18 : tbl 18 = F_times_of) (ha : Qs n a) (hb : Qs m b) (l : n + m ≤ 8000) : call tbl (k + 3) 18 [fq a, fq b] h = .ok (fq (a * b)) h := by
  refine R.Sat.eq ?_
  rw [call_succ, h18]
  refine fn_sat rfl ?_
  simp only [F_times_of, startP, List.map, List.length, List.replicate, List.cons_append, List.nil_append]
  have m1 : mulOk a.num b.num = true := mok ha.num hb.num ha.pos hb.pos l
  have m3 : mulOk (a.den : Nat) (b.den : Nat) = true := mok (by simpa using ha.den) (by simpa using hb.den) ha.pos hb.pos l
  simp [fq0, fq1, b_mul m1, b_mul m3, frac_eq h0 h15 (dd_ne a b) (pow_8000 (ha.dd hb) l), mul_divInt]
theorem over_eq (h0 : tbl 0 = F_common) (h15 : tbl 15 = F_fraction_of) (h19 : tbl 19 = F_over_of) (ha : Qs n a) (hb : Qs m b) (hz : b.num ≠ 0) (l : n + m ≤ 8000) : call tbl (k + 3) 19 [fq a, fq b] h = .ok (fq (a / b)) h := by
  refine R.Sat.eq ?_
  rw [call_succ, h19]
  refine fn_sat rfl ?_
  simp only [F_over_of, startP, List.map, List.length, List.replicate, List.cons_append, List.nil_append]
  have m1 : mulOk a.num (b.den : Nat) = true := mok ha.num (by simpa using hb.den) ha.pos hb.pos l
  have m3 : mulOk (a.den : Nat) b.num = true := mok (by simpa using ha.den) hb.num ha.pos hb.pos l
  rw [x_cons]
  simp [fq0, fq1, hz, b_mul m1, b_mul m3, frac_eq h0 h15 (Int.mul_ne_zero (den_ne a) hz) (pow_8000 (ha.dn hb) l), div_divInt a b hz]
theorem plusL_eq (h9 : tbl 9 = F_law_lowest) (h24 : tbl 24 = F_law_plus) (ha : Qs n a) (hb : Qs m b) (l : n + m ≤ 8000) : call tbl (k + 2) 24 [fq a, fq b] h = .ok (fq (a + b)) h := by
  refine R.Sat.eq ?_
  rw [call_succ, h24]
  refine fn_sat rfl ?_
  simp only [F_law_plus, startP, List.map, List.length, List.replicate, List.cons_append, List.nil_append]
  have m1 : mulOk a.num (b.den : Nat) = true := mok ha.num (by simpa using hb.den) ha.pos hb.pos l
  have m2 : mulOk b.num (a.den : Nat) = true := mok hb.num (by simpa using ha.den) hb.pos ha.pos (by omega)
  have m3 : mulOk (a.den : Nat) (b.den : Nat) = true := mok (by simpa using ha.den) (by simpa using hb.den) ha.pos hb.pos l
  simp [fq0, fq1, b_mul m1, b_mul m2, b_mul m3, lowq h9 (dd_ne a b) (pow_8000 (ha.dd hb) l), add_divInt]
theorem timesL_eq (h9 : tbl 9 = F_law_lowest) (h25 : tbl 25 = F_law_times) (ha : Qs n a) (hb : Qs m b) (l : n + m ≤ 8000) : call tbl (k + 2) 25 [fq a, fq b] h = .ok (fq (a * b)) h := by
  refine R.Sat.eq ?_
  rw [call_succ, h25]
  refine fn_sat rfl ?_
  simp only [F_law_times, startP, List.map, List.length, List.replicate, List.cons_append, List.nil_append]
  have m1 : mulOk a.num b.num = true := mok ha.num hb.num ha.pos hb.pos l
  have m3 : mulOk (a.den : Nat) (b.den : Nat) = true := mok (by simpa using ha.den) (by simpa using hb.den) ha.pos hb.pos l
  simp [fq0, fq1, b_mul m1, b_mul m3, lowq h9 (dd_ne a b) (pow_8000 (ha.dd hb) l), mul_divInt]
end
end
end Sb

set_option Elab.async false
set_option linter.all false
set_option maxRecDepth 100000
set_option maxHeartbeats 4000000
/-! Sb: things that are the same; moves by rational numbers. -/
namespace Sb
open PySem
/-- two things that the laws call the same, down to d levels -/
def sameP (h : PH) : Nat → PV → PV → Prop
  | _, .non, .non => True
  | _, .bl a, .bl b => a = b
  | _, .int a, .int b => a = b
  | _, .str a, .str b => a = b
  | d + 1, .tup l, .tup k => l.length = k.length ∧ l.length ≤ 1000000 ∧ ∀ (i : Nat) x y, l[i]? = some x → k[i]? = some y → sameP h d x y
  | d + 1, .ref m, .ref n => ∃ l k, h[m]? = some (.lst l) ∧ h[n]? = some (.lst k) ∧ l.length = k.length ∧ l.length ≤ 1000000 ∧ ∀ (i : Nat) x y, l[i]? = some x → k[i]? = some y → sameP h d x y
  | _, _, _ => False
theorem sameP.app {h t : PH} : ∀ {d : Nat} {v w : PV}, sameP h d v w → sameP (h ++ t) d v w
  | d, .non, w, s => by cases d <;> cases w <;> first | trivial | exact s.elim
  | d, .bl _, w, s => by cases d <;> cases w <;> first | exact s | exact s.elim
  | d, .int _, w, s => by cases d <;> cases w <;> first | exact s | exact s.elim
  | d, .str _, w, s => by cases d <;> cases w <;> first | exact s | exact s.elim
  | 0, .tup _, w, s => by cases w <;> exact s.elim
  | 0, .ref _, w, s => by cases w <;> exact s.elim
  | d, .cl _, w, s => by cases d <;> cases w <;> exact s.elim
  | d, .ty _, w, s => by cases d <;> cases w <;> exact s.elim
  | d + 1, .tup l, w, s => by
    cases w with
    | tup k => exact ⟨s.1, s.2.1, fun i x y h1 h2 => (s.2.2 i x y h1 h2).app⟩
    | _ => exact s.elim
  | d + 1, .ref m, w, s => by
    cases w with
    | ref n =>
      obtain ⟨l, k, e1, e2, e3, e4, e5⟩ := s
      refine ⟨l, k, ?_, ?_, e3, e4, fun i x y h1 h2 => (e5 i x y h1 h2).app⟩
      · rw [List.getElem?_append_left (List.getElem?_eq_some_iff.mp e1).1]; exact e1
      · rw [List.getElem?_append_left (List.getElem?_eq_some_iff.mp e2).1]; exact e2
    | _ => exact s.elim
theorem zip_get : ∀ {l k : List PV} {x : PV} {i : Nat}, (zipP l k)[i]? = some x → ∃ a b, x = .tup [a, b] ∧ l[i]? = some a ∧ k[i]? = some b
  | [], k, x, i, e => by
    rw [show zipP [] k = [] by cases k <;> rfl] at e
    simp at e
  | _ :: _, [], x, i, e => by
    rw [show zipP (_ :: _) [] = [] from rfl] at e
    simp at e
  | a :: l, b :: k, x, 0, e => by
    rw [show zipP (a :: l) (b :: k) = .tup [a, b] :: zipP l k from rfl] at e
    simp at e
    exact ⟨a, b, e.symm, rfl, rfl⟩
  | a :: l, b :: k, x, i + 1, e => by
    rw [show zipP (a :: l) (b :: k) = .tup [a, b] :: zipP l k from rfl] at e
    simp at e
    obtain ⟨a', b', e1, e2, e3⟩ := zip_get e
    exact ⟨a', b', e1, by simpa using e2, by simpa using e3⟩
theorem zip_len : ∀ {l k : List PV}, (zipP l k).length ≤ l.length
  | [], k => by cases k <;> exact Nat.le_refl _
  | _ :: _, [] => Nat.zero_le _
  | a :: l, b :: k => Nat.succ_le_succ zip_len
theorem mem_get {α : Type} {l : List α} {x : α} (h : x ∈ l) : ∃ i : Nat, l[i]? = some x := by
  obtain ⟨i, hi, e⟩ := List.mem_iff_getElem.mp h
  exact ⟨i, List.getElem?_eq_some_iff.mpr ⟨hi, e⟩⟩
section
variable {tbl : Nat → Fn}
theorem same_sat (h7 : tbl 7 = F_law_same) : ∀ {d k : Nat} {h : PH} {v w : PV} {Q : PV → PH → Prop} (s : sameP h d v w) (q : ∀ t, Q (.bl true) (h ++ t)), (call tbl (k + d + 1) 7 [v, w] h).Sat Q := by
  intro d
  induction d with
  | zero =>
    intro k h v w Q s q
    have q0 : Q (.bl true) h := by simpa using q []
    rw [call_succ, h7]
    refine fn_sat rfl ?_
    simp only [F_law_same, startP, List.map, List.length, List.replicate, List.cons_append, List.nil_append]
    cases v <;> cases w <;> first | exact s.elim | skip
    all_goals simp [sameP] at s
    all_goals try subst s
    all_goals simp [x_cons, biF, biIsinst, tyOf, tysOf, isTy, isNonP, q0]
  | succ d ih =>
    intro k h v w Q s q
    have q0 : Q (.bl true) h := by simpa using q []
    rw [call_succ, h7]
    refine fn_sat rfl ?_
    simp only [F_law_same, startP, List.map, List.length, List.replicate, List.cons_append, List.nil_append]
    have go : ∀ (vw : List PV) (kp : Keep) (l m : List PV) (ρ : Env), evGs (call tbl (k + (d + 1))) [(.var 0), (.var 1)] ρ h = .ok vw h → walkF .zip vw h = some (zipP l m, kp) → stays kp h → l.length ≤ 1000000 → (∀ (i : Nat) x y, l[i]? = some x → m[i]? = some y → sameP h d x y) → (∀ a b, ∃ ρ1, setTg (wipeP ρ [2, 3]) [2, 3] false (.tup [a, b]) = some ρ1 ∧ ρ1.get 2 = some a ∧ ρ1.get 3 = some b) →
        (evG (call tbl (k + (d + 1))) (.bi .all [(.comp (.call 7 [(.var 2), (.var 3)] []) [2, 3] false .zip [(.var 0), (.var 1)] none [2, 3])]) false ρ h).Sat Q := by
      intro vw kp l m ρ e1 e2 hk hl hs hρ
      simp
      refine v_mapE e1 e2 (fun _ => .bl true) (fun h' => ∃ t, h' = h ++ t) ⟨[], by simp⟩ (fun h' e y hy => ?_) (Nat.le_trans zip_len hl) (fun x hx h' e => ?_) fun h' e => ?_
      · obtain ⟨t, rfl⟩ := e
        have := hk y hy
        rw [List.getElem?_append_left (List.getElem?_eq_some_iff.mp this).1]
        exact this
      · obtain ⟨t, rfl⟩ := e
        obtain ⟨i, hi⟩ := mem_get hx
        obtain ⟨a, b, rfl, ea, eb⟩ := zip_get hi
        obtain ⟨ρ1, p1, p2, p3⟩ := hρ a b
        refine ⟨ρ1, p1, ?_⟩
        simp [p2, p3]
        have := ih (k := k) (h := h ++ t) (Q := fun v h2 => v = .bl true ∧ ∃ t, h2 = h ++ t) (hs i a b ea eb).app fun t2 => ⟨rfl, t ++ t2, by simp⟩
        exact this
      · obtain ⟨t, e0⟩ := e
        have e : (h' ++ [PO.lst ((zipP l m).map fun _ => PV.bl true)])[h'.length]? = some (.lst (((zipP l m).map fun _ => true).map PV.bl)) := by simp
        rw [all_ref e]
        rw [e0]
        have := q (t ++ [PO.lst ((zipP l m).map fun _ => PV.bl true)])
        have at_ : ((zipP l m).all fun _ => true) = true := by simp
        simpa [at_] using this
    cases v with
    | tup l =>
      cases w with
      | tup m =>
        obtain ⟨s1, s2, s3⟩ := s
        rw [x_cons]
        simp [biF, biIsinst, tyOf, tysOf, isTy]
        rw [x_cons]
        simp [biF, biIsinst, tyOf, tysOf, isTy]
        rw [x_cons]
        simp [biF, biIsinst, tyOf, tysOf, isTy, biLen, seqOf, s1]
        have := go [.tup l, .tup m] [] l m [some (.tup l), some (.tup m), none, none] (by simp) rfl (stays_nil _) s2 s3 fun a b => ⟨_, rfl, rfl, rfl⟩
        simpa [biF] using this
      | _ => exact s.elim
    | ref m =>
      cases w with
      | ref n =>
        obtain ⟨l, m', e1, e2, s1, s2, s3⟩ := s
        rw [x_cons]
        simp [biF, biIsinst, tyOf, tysOf, isTy, e1, e2]
        rw [x_cons]
        simp [biF, biIsinst, tyOf, tysOf, isTy, e1, e2]
        rw [x_cons]
        simp [biF, biIsinst, tyOf, tysOf, isTy, biLen, seqOf, s1, e1, e2]
        have := go [.ref m, .ref n] [(m, l), (n, m')] l m' [some (.ref m), some (.ref n), none, none] (by simp) (by show walkZip [.ref m, .ref n] h = _; simp only [walkZip, e1, e2]) (fun y hy => by
          simp only [List.mem_cons, List.not_mem_nil, or_false] at hy
          rcases hy with rfl | rfl
          · exact e1
          · exact e2) s2 s3 fun a b => ⟨_, rfl, rfl, rfl⟩
        simpa [biF] using this
      | _ => exact s.elim
    | cl l => cases w <;> exact s.elim
    | ty l => cases w <;> exact s.elim
    | _ =>
      cases w <;> first | exact s.elim | skip
      all_goals simp [sameP] at s
      all_goals try subst s
      all_goals simp [x_cons, biF, biIsinst, tyOf, tysOf, isTy, isNonP, q0]
end
theorem same_fq {h : PH} {d : Nat} (q : Rat) : sameP h (d + 1) (fq q) (fq q) := ⟨rfl, Nat.le_of_ble_eq_true rfl, fun i x y h1 h2 => by
  rw [h1] at h2
  cases h2
  have := List.mem_of_getElem? h1
  simp only [List.mem_cons, List.not_mem_nil, or_false] at this
  rcases this with rfl | rfl <;> cases d <;> rfl⟩
theorem same_mq {h : PH} {d : Nat} (a b : Rat) : sameP h (d + 2) (mq a b) (mq a b) := ⟨rfl, Nat.le_of_ble_eq_true rfl, fun i x y h1 h2 => by
  rw [h1] at h2
  cases h2
  have := List.mem_of_getElem? h1
  simp only [List.mem_cons, List.not_mem_nil, or_false] at this
  rcases this with rfl | rfl
  · exact same_fq a
  · exact same_fq b⟩
/-! ### moves -/
section
variable {tbl : Nat → Fn} {k n m o : Nat} {h : PH} {a b c d x : Rat}
/-- the defs of fractions and moves -/
structure TM (tbl : Nat → Fn) : Prop where
  h0 : tbl 0 = F_common
  h15 : tbl 15 = F_fraction_of
  h16 : tbl 16 = F_plus_of
  h17 : tbl 17 = F_less_of
  h18 : tbl 18 = F_times_of
  h19 : tbl 19 = F_over_of
  h20 : tbl 20 = F_stretch_by
  h21 : tbl 21 = F_read_by
  h22 : tbl 22 = F_move_then
  h23 : tbl 23 = F_move_back
structure TL (tbl : Nat → Fn) : Prop where
  h9 : tbl 9 = F_law_lowest
  h24 : tbl 24 = F_law_plus
  h25 : tbl 25 = F_law_times
  h26 : tbl 26 = F_law_led
  h27 : tbl 27 = F_law_then
  h28 : tbl 28 = F_law_back
theorem stretch_eq (t : TM tbl) (ha : Qs n a) (hx : Qs m x) (l : n + m ≤ 8000) : call tbl (k + 4) 20 [mq a b, fq x] h = .ok (fq (a * x)) h := by
  refine R.Sat.eq ?_
  rw [call_succ, t.h20]
  refine fn_sat rfl ?_
  simp only [F_stretch_by, startP, List.map, List.length, List.replicate, List.cons_append, List.nil_append]
  simp [mq0, times_eq t.h0 t.h15 t.h18 ha hx l]
theorem read_eq (t : TM tbl) (ha : Qs n a) (hb : Qs o b) (hx : Qs m x) (l : n + m + o ≤ 8000) : call tbl (k + 5) 21 [mq a b, fq x] h = .ok (fq (a * x + b)) h := by
  refine R.Sat.eq ?_
  rw [call_succ, t.h21]
  refine fn_sat rfl ?_
  simp only [F_read_by, startP, List.map, List.length, List.replicate, List.cons_append, List.nil_append]
  simp [mq1, stretch_eq t ha hx (by omega), plus_eq t.h0 t.h15 t.h16 (ha.mul hx) hb l]
theorem then_eq (t : TM tbl) (ha : Qs n a) (hb : Qs n b) (hc : Qs m c) (hd : Qs m d) (l : m + n + m ≤ 8000) : call tbl (k + 6) 22 [mq a b, mq c d] h = .ok (mq (c * a) (c * b + d)) h := by
  refine R.Sat.eq ?_
  rw [call_succ, t.h22]
  refine fn_sat rfl ?_
  simp only [F_move_then, startP, List.map, List.length, List.replicate, List.cons_append, List.nil_append]
  simp [mq0, mq1, times_eq t.h0 t.h15 t.h18 hc ha (by omega), read_eq t hc hd hb (by omega)]
  rfl
theorem q1 : Qs 1 1 := ⟨by decide, by decide⟩
theorem q0 : Qs 1 0 := ⟨by decide, by decide⟩
theorem back_eq (t : TM tbl) (ha : Qs n a) (hb : Qs m b) (hz : a ≠ 0) (l : m + n + 2 ≤ 8000) : call tbl (k + 4) 23 [mq a b] h = .ok (mq (1 / a) ((0 - b) / a)) h := by
  refine R.Sat.eq ?_
  rw [call_succ, t.h23]
  refine fn_sat rfl ?_
  simp only [F_move_back, startP, List.map, List.length, List.replicate, List.cons_append, List.nil_append]
  rw [x_cons]
  simp [mq, setAll]
  have e1 : (PV.tup [.int 1, .int 1]) = fq 1 := rfl
  have e0 : (PV.tup [.int 0, .int 1]) = fq 0 := rfl
  rw [e1, e0]
  simp [over_eq t.h0 t.h15 t.h19 q1 ha (num_ne hz) (by omega), less_eq t.h0 t.h15 t.h17 q0 hb (by omega), over_eq t.h0 t.h15 t.h19 (q0.sub hb) ha (num_ne hz) (by omega)]
theorem ledL_eq (t : TL tbl) (ha : Qs n a) (hb : Qs o b) (hx : Qs m x) (l : n + m + o ≤ 8000) : call tbl (k + 3) 26 [mq a b, fq x] h = .ok (fq (a * x + b)) h := by
  refine R.Sat.eq ?_
  rw [call_succ, t.h26]
  refine fn_sat rfl ?_
  simp only [F_law_led, startP, List.map, List.length, List.replicate, List.cons_append, List.nil_append]
  simp [mq0, mq1, timesL_eq t.h9 t.h25 ha hx (by omega), plusL_eq t.h9 t.h24 (ha.mul hx) hb l]
theorem thenL_eq (t : TL tbl) (ha : Qs n a) (hb : Qs n b) (hc : Qs m c) (hd : Qs m d) (l : m + n + m ≤ 8000) : call tbl (k + 4) 27 [mq a b, mq c d] h = .ok (mq (c * a) (c * b + d)) h := by
  refine R.Sat.eq ?_
  rw [call_succ, t.h27]
  refine fn_sat rfl ?_
  simp only [F_law_then, startP, List.map, List.length, List.replicate, List.cons_append, List.nil_append]
  simp [mq0, mq1, timesL_eq t.h9 t.h25 hc ha (by omega), ledL_eq t hc hd hb (by omega)]
  rfl
theorem backL_eq (t : TL tbl) (ha : Qs n a) (hb : Qs m b) (hz : a ≠ 0) (l : m + n + 2 ≤ 8000) : call tbl (k + 3) 28 [mq a b] h = .ok (mq (1 / a) ((0 - b) / a)) h := by
  refine R.Sat.eq ?_
  rw [call_succ, t.h28]
  refine fn_sat rfl ?_
  simp only [F_law_back, startP, List.map, List.length, List.replicate, List.cons_append, List.nil_append]
  rw [x_cons]
  simp [mq0, mq1, fq0, fq1, lowq t.h9 (t := (a.den : Int)) (num_ne hz) (pow_8000 ha.num (by omega)), ← Rat.inv_def]
  have e : (PV.tup [.int (-b.num), .int (b.den : Nat)]) = fq (-b) := rfl
  have e' : (PV.tup [.int (0 - b.num), .int (b.den : Nat)]) = fq (-b) := by rw [Int.zero_sub]; rfl
  simp only [e, e']
  simp [timesL_eq t.h9 t.h25 (ha.inv (num_ne hz)) hb.neg (by omega)]
  unfold mq
  rw [show a⁻¹ * -b = (0 - b) / a by grind, show a⁻¹ = 1 / a by grind]
end
end Sb

set_option Elab.async false
set_option linter.all false
set_option maxRecDepth 100000
set_option maxHeartbeats 4000000
/-! Sb: k03's bent moves. -/
namespace Sb
open PySem
/-- a comprehension over two things -/
theorem v_comp2 {C : Calls} {tg : List Nat} {one : Bool} {k : ITK} {its : List E} {own : List Nat} {a : E} {ρ : Env} {h h1 : PH} {Q : PV → PH → Prop} {l : List PV} {x y : PV} {kp : Keep} (e1 : evGs C its ρ h = .ok l h1) (e2 : walkF k l h1 = some ([x, y], kp)) (hk : stays kp h1)
    (hs : ∃ ρ1, setTg (wipeP ρ own) tg one x = some ρ1 ∧ (evG C a false ρ1 h1).Sat fun v h2 => stays kp h2 ∧ ∃ ρ2, setTg (wipeP ρ own) tg one y = some ρ2 ∧ (evG C a false ρ2 h2).Sat fun w h3 => stays kp h3 ∧ Q (.ref h3.length) (h3 ++ [.lst [v, w]])) : (evG C (.comp a tg one k its none own) false ρ h).Sat Q := by
  obtain ⟨ρ1, s1, t1⟩ := hs
  obtain ⟨v, h2, q1, k2, ρ2, s2, t2⟩ := t1.ex
  obtain ⟨w, h3, q2, k3, qq⟩ := t2.ex
  rw [g_comp, fin_f, e1, R.bind_ok, e2]
  show ((compLoop kp _ _ _ [x, y] [] h1).bind _).Sat Q
  have c1 : lineOk 1 = true := rfl
  have c2 : lineOk 2 = true := rfl
  simp [compLoop, hk, s1, q1, k2, s2, q2, k3, c1, c2, alloc_small, qq]
section
variable {C : Calls} {ρ : Env} {h : PH} {N : Env → PH → Prop} {T : PV → PH → Prop} {ss b : List S} {v : Nat} {w i : Int}
theorem x_skip (hv : ρ.get v = some (.int w)) (hw : ¬ w = i) : (exSs C (.ifs (.cmp .Eq (.var v) (.lit (.int i))) b [] :: ss) ρ h).Sat N T = (exSs C ss ρ h).Sat N T := by
  rw [x_cons]
  simp [hv, hw]
theorem x_take (hv : ρ.get v = some (.int w)) (hw : w = i) : (exSs C (.ifs (.cmp .Eq (.var v) (.lit (.int i))) b [] :: ss) ρ h).Sat N T = (exSs C b ρ h).Sat (fun ρ h => (exSs C ss ρ h).Sat N T) T := by
  rw [x_cons]
  simp [hv, hw]
end
theorem St.lt {h : PH} {s g c B : Nat} (st : St h s g c B) : s < h.length ∧ g < h.length ∧ c < h.length := by
  obtain ⟨gr, cur, cs, cnt, e1, e2, e3, r⟩ := st.ex
  exact ⟨(List.getElem?_eq_some_iff.mp e1).1, (List.getElem?_eq_some_iff.mp e2).1, (List.getElem?_eq_some_iff.mp e3).1⟩
theorem Fr.setNew {S : List Nat} {h h1 : PH} {m : Nat} {o : PO} (f : Fr S h h1) (hm : h.length ≤ m) : Fr S h (h1.set m o) := ⟨by rw [List.length_set]; exact f.len, fun n hn hl => by
  rw [List.getElem?_set_ne (by omega)]
  exact f.at_ n hn hl⟩
theorem Fr.appNew {S : List Nat} {h h1 t : PH} (f : Fr S h h1) : Fr S h (h1 ++ t) := f.trans Fr.app
theorem St.setNew {h : PH} {s g c B m : Nat} {o : PO} (st : St h s g c B) (h1 : m ≠ s) (h2 : m ≠ g) (h3 : m ≠ c) : St (h.set m o) s g c B :=
  st.frame (S := [m]) (Fr.set (by simp)) (by simp; omega) (by simp; omega) (by simp; omega)
theorem vok.down {n : Nat} : ∀ {d : Nat} {v : PV}, vok n (d + 1) v → vok n d v
  | d, .non, o => by cases d <;> trivial
  | d, .bl _, o => by cases d <;> trivial
  | d, .int i, o => by cases d <;> exact o
  | d, .str _, o => by cases d <;> trivial
  | 0, .tup _, o => trivial
  | d + 1, .tup l, o => fun x hx => (o x hx).down
  | d, .ref k, o => by cases d <;> exact o
  | d, .cl _, o => o.elim
  | d, .ty _, o => o.elim
section
variable {tbl : Nat → Fn}
theorem odd_sat (h5 : tbl 5 = F_law_mix) (h6 : tbl 6 = F_law_draw) (h12 : tbl 12 = F_law_odd) {k : Nat} {h : PH} {s g c B : Nat} (st : St h s g c B) (hB : B + 8 ≤ 2 ^ 20) {Q : PV → PH → Prop}
    (q : ∀ v h', vok h'.length 2 v → St h' s g c (B + 8) → Fr [s, g] h h' → Q v h') : (call tbl (k + 3) 12 [.ref s] h).Sat Q := by
  rw [call_succ, h12]
  refine fn_sat rfl ?_
  simp only [F_law_odd, startP, List.map, List.length, List.replicate, List.cons_append, List.nil_append]
  have p1 : powOk 10 20 = true := by decide
  simp [alloc_small, b_pow, p1]
  generalize eA : PO.lst [PV.int 1, PV.int 1] = A
  generalize eB : [PV.bl true, .bl false, .non, .str "", .str "1", .int 0, .int 1, .int 2, .int (-1), .tup [], .tup [.int 1, .int 1], .ref h.length, .tup [.tup [.int 1, .int 1]], .int 100000000000000000000] = L
  refine draw_sat h5 h6 (B := B) st.app hB (by decide) (by decide) fun r h' r0 r1 st' fr' l' => ?_
  have e0 : (h ++ [A, PO.lst L])[h.length + 1]? = some (.lst L) := by simp
  have lt := st.lt
  have e1 := fr'.some (n := h.length + 1) (by simp; omega) e0
  have hl : L.length = 14 := by rw [← eB]; rfl
  obtain ⟨v, hv⟩ : ∃ v, L[r.toNat]? = some v := ⟨_, List.getElem?_eq_getElem (by omega)⟩
  simp [idx_ref e1 (at_pos r0 hv)]
  have lh : h.length + 2 = h'.length := by rw [l']; simp
  refine q v h' ?_ st' (Fr.app.trans fr')
  have hm := List.mem_of_getElem? hv
  rw [← eB] at hm
  simp only [List.mem_cons, List.not_mem_nil, or_false] at hm
  rcases hm with rfl | rfl | rfl | rfl | rfl | rfl | rfl | rfl | rfl | rfl | rfl | rfl | rfl | rfl
  case inr.inr.inr.inr.inr.inr.inr.inr.inr.inr.inr.inl =>
    show h.length < h'.length
    omega
  all_goals simp [vok]
end
end Sb

set_option Elab.async false
set_option linter.all false
set_option maxRecDepth 100000
set_option maxHeartbeats 4000000
/-! Sb: k02's law. -/
namespace Sb
open PySem
section
variable {tbl : Nat → Fn}
theorem fraction_sat (h5 : tbl 5 = F_law_mix) (h6 : tbl 6 = F_law_draw) (h9 : tbl 9 = F_law_lowest) (h29 : tbl 29 = F_law_fraction) {k s g c B : Nat} {h : PH} {most : Int} (m0 : 0 < most) (m1 : most ≤ 10 ^ 59) (st : St h s g c B) (hB : B + 24 ≤ 2 ^ 20) {Q : PV → PH → Prop}
    (q : ∀ r h', Qs 200 r → St h' s g c (B + 24) → Fr [s, g] h h' → Q (fq r) h') : (call tbl (k + 3) 29 [.ref s, .int most] h).Sat Q := by
  rw [call_succ, h29]
  refine fn_sat rfl ?_
  simp only [F_law_fraction, startP, List.map, List.length, List.replicate, List.cons_append, List.nil_append]
  have lt := st.lt
  have p1 : powOk 10 11 = true := by decide
  rw [x_cons]
  simp [alloc_small, b_pow, p1]
  generalize eS : [PV.int 3, .int 20, .int 100000000000, .int most] = LS
  refine draw_sat h5 h6 (B := B) st.app (by omega) (by decide) (by decide) fun r hh r0 r1 st1 fr1 l1 => ?_
  obtain ⟨sz, hs, s0, s1⟩ : ∃ t : Int, LS[r.toNat]? = some (.int t) ∧ 0 < t ∧ t ≤ 10 ^ 59 := by
    have : r = 0 ∨ r = 1 ∨ r = 2 ∨ r = 3 := by omega
    rw [← eS]
    rcases this with rfl | rfl | rfl | rfl
    · exact ⟨3, rfl, by decide, by decide⟩
    · exact ⟨20, rfl, by decide, by decide⟩
    · exact ⟨100000000000, rfl, by decide, by decide⟩
    · exact ⟨most, rfl, m0, m1⟩
  have eS1 : hh[h.length]? = some (.lst LS) := fr1.some (by intro z; simp only [List.mem_cons, List.not_mem_nil, or_false] at z; omega) (by simp)
  have frA : Fr [s, g] h hh := Fr.app.trans fr1
  simp [idx_ref eS1 (at_pos r0 hs)]
  have b59 : (10 : Int) ^ 59 < 2 ^ 197 := by decide
  have m1 : mulOk 2 sz = true := mul_ok (a := 2) (b := 197) (by decide) (by omega) (by decide) (by decide) (by decide)
  simp [b_mul m1]
  have b62 : (2 : Int) * 10 ^ 59 + 1 ≤ 10 ^ 62 := by decide
  refine draw_sat h5 h6 st1 (by omega) (by omega) (by omega) fun r1 ha r10 r11 st2 fr2 l2 => ?_
  simp
  refine draw_sat h5 h6 st2 (by omega) (by omega) (by omega) fun r2 hb r20 r21 st3 fr3 l3' => ?_
  have bz : (1 + r2) ≠ 0 := by omega
  have bb : (1 + r2).natAbs < 2 ^ 200 := by omega
  simp [lowq h9 (t := r1 - sz) bz (pow_8000 bb (by decide))]
  exact q _ _ (.divInt bz (by omega) bb) st3 ((frA.trans fr2).trans fr3)
theorem move_sat (h5 : tbl 5 = F_law_mix) (h6 : tbl 6 = F_law_draw) (h9 : tbl 9 = F_law_lowest) (h29 : tbl 29 = F_law_fraction) (h30 : tbl 30 = F_law_move) {k s g c B : Nat} {h : PH} (st : St h s g c B) (hB : B + 80 ≤ 2 ^ 20) {Q : PV → PH → Prop}
    (q : ∀ a b h', a ≠ 0 → Qs 200 a → Qs 200 b → St h' s g c (B + 80) → Fr [s, g] h h' → Q (mq a b) h') : (call tbl (k + 4) 30 [.ref s] h).Sat Q := by
  rw [call_succ, h30]
  refine fn_sat rfl ?_
  simp only [F_law_move, startP, List.map, List.length, List.replicate, List.cons_append, List.nil_append]
  have p1 : powOk 10 59 = true := by decide
  rw [x_cons]
  simp [b_pow, p1]
  refine fraction_sat h5 h6 h9 h29 (by decide) (by decide) st (by omega) fun a h1 qa st1 fr1 => ?_
  rw [x_cons]
  by_cases ha : a.num = 0
  · simp [fq0, ha]
    refine draw_sat h5 h6 st1 (by omega) (by decide) (by decide) fun r h2 r0 r1 st2 fr2 l2 => ?_
    simp [b_pow, p1]
    refine fraction_sat h5 h6 h9 h29 (by decide) (by decide) st2 (by omega) fun b h3 qb st3 fr3 => ?_
    have e : PV.tup [.int (-1 - r), .int 1] = fq ((-1 - r : Int) : Rat) := by
      unfold fq
      rw [Rat.num_intCast, Rat.den_intCast]
      rfl
    rw [e]
    refine q _ b h3 (fun z => ?_) ⟨?_, ?_⟩ qb (st3.up (by omega)) ((fr1.trans fr2).trans fr3)
    · have := congrArg Rat.num z
      rw [Rat.num_intCast] at this
      simp at this
      omega
    · rw [Rat.num_intCast]
      omega
    · rw [Rat.den_intCast]
      decide
  · simp [fq0, ha]
    simp [b_pow, p1]
    refine fraction_sat h5 h6 h9 h29 (by decide) (by decide) st1 (by omega) fun b h3 qb st3 fr3 => ?_
    exact q a b h3 (fun z => ha (by rw [z]; rfl)) qa qb (st3.up (by omega)) (fr1.trans fr3)
def sameM : PV := .tup [.tup [.int 1, .int 1], .tup [.int 0, .int 1]]
theorem sameM_eq : sameM = mq 1 0 := rfl
theorem c_neM (h : PH) (a b c d : Rat) (e1 : a = c) (e2 : b = d) : cmpop .NotEq (mq a b) (mq c d) h = .ok (.bl false) h := by
  subst e1
  subst e2
  show ofO ((eqP h (mq a b) (mq a b)).map fun b => PV.bl (!b)) h = _
  have : eqP h (mq a b) (mq a b) = some true := by
    simp [eqP, mq, fq, pd, mapO, PyData.eqv, PyData.eqvAll]
  rw [this]
  rfl
theorem c_neF (h : PH) (a c : Rat) (e1 : a = c) : cmpop .NotEq (fq a) (fq c) h = .ok (.bl false) h := by
  subst e1
  show ofO ((eqP h (fq a) (fq a)).map fun b => PV.bl (!b)) h = _
  have : eqP h (fq a) (fq a) = some true := by
    simp [eqP, fq, pd, mapO, PyData.eqv, PyData.eqvAll]
  rw [this]
  rfl
theorem k02_turn (t : TM tbl) (tl : TL tbl) (h7 : tbl 7 = F_law_same) {a b x : Rat} {ρ : Env} {h : PH} (az : a ≠ 0) (ha : Qs 200 a) (hb : Qs 200 b) (hx : Qs 200 x) (r7 : ρ.get 7 = some (mq a b)) (r5 : ρ.get 5 = some (fq x)) {N : Env → PH → Prop} {T : PV → PH → Prop} (q : ∀ t, N ρ (h ++ t)) :
    (exSs (call tbl 11) [.ifs (.nt (.call 7 [(.call 21 [(.var 7), (.var 5)] []), (.call 26 [(.var 7), (.var 5)] [])] [])) [.ret (.lit (.bl false))] [],
  .ifs (.nt (.call 7 [(.call 20 [(.var 7), (.var 5)] []), (.call 25 [(.idx (.var 7) (.lit (.int 0))), (.var 5)] [])] [])) [.ret (.lit (.bl false))] [],
  .ifs (.nt (.call 7 [(.call 23 [(.var 7)] []), (.call 28 [(.var 7)] [])] [])) [.ret (.lit (.bl false))] [],
  .ifs (.nt (.call 7 [(.lst [(.call 22 [(.var 7), (.call 23 [(.var 7)] [])] []), (.call 22 [(.call 23 [(.var 7)] []), (.var 7)] [])]), (.lst [(.lit (.tup [(.tup [(.int 1), (.int 1)]), (.tup [(.int 0), (.int 1)])])), (.lit (.tup [(.tup [(.int 1), (.int 1)]), (.tup [(.int 0), (.int 1)])]))])] [])) [.ret (.lit (.bl false))] []] ρ h).Sat N T := by
  have same : ∀ {v w : PV} {h : PH} {Q : PV → PH → Prop}, sameP h 4 v w → (∀ t, Q (.bl true) (h ++ t)) → (call tbl 11 7 [v, w] h).Sat Q := fun s q => same_sat (k := 6) (d := 4) h7 s q
  have i1 : Qs 201 (1 / a) := q1.div ha (num_ne az)
  have i2 : Qs 402 ((0 - b) / a) := (q0.sub hb).div ha (num_ne az)
  have rd : ∀ h : PH, call tbl 11 21 [mq a b, fq x] h = .ok (fq (a * x + b)) h := fun h => read_eq (k := 6) t ha hb hx (by decide)
  have ld : ∀ h : PH, call tbl 11 26 [mq a b, fq x] h = .ok (fq (a * x + b)) h := fun h => ledL_eq (k := 8) tl ha hb hx (by decide)
  have sr : ∀ h : PH, call tbl 11 20 [mq a b, fq x] h = .ok (fq (a * x)) h := fun h => stretch_eq (k := 7) t ha hx (by decide)
  have ti : ∀ h : PH, call tbl 11 25 [fq a, fq x] h = .ok (fq (a * x)) h := fun h => timesL_eq (k := 9) tl.h9 tl.h25 ha hx (by decide)
  have bk : ∀ h : PH, call tbl 11 23 [mq a b] h = .ok (mq (1 / a) ((0 - b) / a)) h := fun h => back_eq (k := 7) t ha hb az (by decide)
  have bl : ∀ h : PH, call tbl 11 28 [mq a b] h = .ok (mq (1 / a) ((0 - b) / a)) h := fun h => backL_eq (k := 8) tl ha hb az (by decide)
  have t1 : ∀ h : PH, call tbl 11 22 [mq a b, mq (1 / a) ((0 - b) / a)] h = .ok (mq 1 0) h := fun h => by
    rw [show (11 : Nat) = 5 + 6 from rfl, then_eq t ha hb (i1.mono (show 201 ≤ 402 by decide)) i2 (by decide), show 1 / a * a = 1 by grind, show 1 / a * b + (0 - b) / a = 0 by grind]
  have t2 : ∀ h : PH, call tbl 11 22 [mq (1 / a) ((0 - b) / a), mq a b] h = .ok (mq 1 0) h := fun h => by
    rw [show (11 : Nat) = 5 + 6 from rfl, then_eq t (i1.mono (show 201 ≤ 402 by decide)) i2 ha hb (by decide), show a * (1 / a) = 1 by grind, show a * ((0 - b) / a) + b = 0 by grind]
  rw [x_cons]
  simp [r7, r5, rd, ld]
  refine same (same_fq _) fun t1' => ?_
  simp
  rw [x_cons]
  simp [r7, r5, sr, ti, mq0]
  refine same (same_fq _) fun t2' => ?_
  simp
  rw [x_cons]
  simp [r7, r5, bk, bl]
  refine same (same_mq _ _) fun t3' => ?_
  simp [r7, bk, t1, t2, alloc_small]
  have e : PV.tup [.tup [.int 1, .int 1], .tup [.int 0, .int 1]] = mq 1 0 := rfl
  simp only [e]
  obtain ⟨hz, ez⟩ : ∃ hz, hz = h ++ (t1' ++ (t2' ++ t3')) := ⟨_, rfl⟩
  have el : List.length h + (List.length t1' + (List.length t2' + List.length t3')) = hz.length := by rw [ez]; simp
  have eh : h ++ (t1' ++ (t2' ++ (t3' ++ [PO.lst [mq 1 0, mq 1 0], PO.lst [mq 1 0, mq 1 0]]))) = hz ++ [PO.lst [mq 1 0, mq 1 0], PO.lst [mq 1 0, mq 1 0]] := by rw [ez]; simp
  rw [el, eh]
  have lst : ∀ {h : PH} (i : Nat) (x y : PV), [mq 1 0, mq 1 0][i]? = some x → [mq 1 0, mq 1 0][i]? = some y → sameP h 3 x y := fun i x y h1 h2 => by
    rw [h1] at h2
    cases h2
    have := List.mem_of_getElem? h1
    simp only [List.mem_cons, List.not_mem_nil, or_false] at this
    rcases this with rfl | rfl
    · exact same_mq _ _
    · exact same_mq _ _
  refine same ⟨[mq 1 0, mq 1 0], [mq 1 0, mq 1 0], by simp, by simp, rfl, Nat.le_of_ble_eq_true rfl, lst⟩ fun t4 => ?_
  have qq := q (t1' ++ (t2' ++ t3') ++ ([PO.lst [mq 1 0, mq 1 0], PO.lst [mq 1 0, mq 1 0]] ++ t4))
  rw [ez]
  simpa using qq
theorem three_of {α : Type} {l : List α} (e : l.length = 3) : ∃ x y z, l = [x, y, z] := by
  match l, e with
  | [x, y, z], _ => exact ⟨x, y, z, rfl⟩
theorem k02_law (t : TM tbl) (tl : TL tbl) (h4 : tbl 4 = F_law_start) (h5 : tbl 5 = F_law_mix) (h6 : tbl 6 = F_law_draw) (h7 : tbl 7 = F_law_same) (h29 : tbl 29 = F_law_fraction) (h30 : tbl 30 = F_law_move) (h31 : tbl 31 = F_law_2) {ns : List Int} (hn : ns.length ≤ 63) :
    (call tbl 12 31 [.cl (ns.map PV.int)] []).Sat fun v _ => v = .bl true := by
  have same : ∀ {v w : PV} {h : PH} {Q : PV → PH → Prop}, sameP h 4 v w → (∀ t, Q (.bl true) (h ++ t)) → (call tbl 11 7 [v, w] h).Sat Q := fun s q => same_sat (k := 6) (d := 4) h7 s q
  rw [call_succ, h31]
  refine fn_sat rfl ?_
  simp only [F_law_2, startP, List.map, List.length, List.replicate, List.cons_append, List.nil_append]
  rw [x_cons]
  simp
  refine start_sat h4 hn fun h st fr l => ?_
  simp at l st
  rw [x_cons, x_unl]
  obtain ⟨I, hI⟩ : ∃ I : Nat → List PV → PH → Prop, I = fun i acc h' => ∃ ms : List (Rat × Rat), acc = ms.map (fun p => mq p.1 p.2) ∧ ms.length = i ∧ (∀ p ∈ ms, p.1 ≠ 0 ∧ Qs 200 p.1 ∧ Qs 200 p.2) ∧ St h' 2 0 1 (80 * i) := ⟨_, rfl⟩
  refine v_compE (l := [.int 3]) (items := rangeP 3) (kp := []) (h1 := h) (by simp) rfl I (by rw [hI]; exact ⟨[], rfl, rfl, by simp, by simpa using st⟩) (fun i x acc h1 hx hi => ?_) (fun acc h1 hi => ?_)
  · have hi3 : i < 3 := by
      have := (List.getElem?_eq_some_iff.mp hx).1
      simpa [rangeP] using this
    rw [hI] at hi
    obtain ⟨ms, rfl, m1, m2, st1⟩ := hi
    refine ⟨stays_nil _, [some (.cl (ns.map PV.int)), some (.ref 2), none, none, none, none, none, none, none, none, none, some x], rfl, ?_⟩
    simp
    refine move_sat (k := 7) h5 h6 tl.h9 h29 h30 st1 (by omega) fun a b h2 az qa qb st2 fr2 => ?_
    refine ⟨line_small (by omega), ?_⟩
    rw [hI]
    refine ⟨ms ++ [(a, b)], by simp, by simp; omega, fun p hp => ?_, st2.up (by omega)⟩
    rcases List.mem_append.mp hp with hp | hp
    · exact m2 p hp
    · rw [List.mem_singleton.mp hp]
      exact ⟨az, qa, qb⟩
  rw [hI] at hi
  obtain ⟨ms, rfl, m1, m2, st1⟩ := hi
  simp [rangeP] at m1
  obtain ⟨⟨a1, b1⟩, ⟨a2, b2⟩, ⟨a3, b3⟩, rfl⟩ := three_of m1
  obtain ⟨z1, A1, B1⟩ := m2 (a1, b1) (by simp)
  obtain ⟨z2, A2, B2⟩ := m2 (a2, b2) (by simp)
  obtain ⟨z3, A3, B3⟩ := m2 (a3, b3) (by simp)
  simp only at z1 A1 B1 z2 A2 B2 z3 A3 B3
  refine ⟨stays_nil _, rfl, [mq a1 b1, mq a2 b2, mq a3 b3], [some (.cl (ns.map PV.int)), some (.ref 2), some (mq a1 b1), some (mq a2 b2), some (mq a3 b3), none, none, none, none, none, none, none], by simp, by simp [setAll], ?_⟩
  have st2 : St (h1 ++ [PO.lst [mq a1 b1, mq a2 b2, mq a3 b3]]) 2 0 1 240 := (st1.up (by simp [rangeP])).app
  simp only [List.map]
  generalize h1 ++ [PO.lst [mq a1 b1, mq a2 b2, mq a3 b3]] = h2 at st2 ⊢
  have p1 : powOk 10 29 = true := by decide
  rw [x_cons]
  simp [b_pow, p1]
  refine fraction_sat (k := 8) h5 h6 tl.h9 h29 (by decide) (by decide) st2 (by omega) fun x h3 qx st3 fr3 => ?_
  refine fraction_sat (k := 8) h5 h6 tl.h9 h29 (by decide) (by decide) st3 (by omega) fun y h4 qy st4 fr4 => ?_
  simp [setAll]
  rw [x_cons]
  have e10 : PV.tup [.tup [.int 1, .int 1], .tup [.int 0, .int 1]] = mq 1 0 := rfl
  obtain ⟨J, hJ⟩ : ∃ J : Nat → Env → PH → Prop, J = fun i ρ h' => (∃ t, h' = h4 ++ [PO.lst [mq a1 b1, mq a2 b2, mq 1 0]] ++ t) ∧ ∃ e7, ρ = [some (.cl (ns.map PV.int)), some (.ref 2), some (mq a1 b1), some (mq a2 b2), some (mq a3 b3), some (fq x), some (fq y), e7, none, none, none, none] := ⟨_, rfl⟩
  have keep : ∀ t : PH, (h4 ++ [PO.lst [mq a1 b1, mq a2 b2, mq 1 0]] ++ t)[h4.length]? = some (.lst [mq a1 b1, mq a2 b2, mq 1 0]) := fun t => by simp
  refine x_forE (l := [.ref h4.length]) (items := [mq a1 b1, mq a2 b2, mq 1 0]) (kp := [(h4.length, [mq a1 b1, mq a2 b2, mq 1 0])]) (h1 := h4 ++ [PO.lst [mq a1 b1, mq a2 b2, mq 1 0]]) (by simp [alloc_small, e10]) (by show walkSeq [.ref h4.length] _ = _; simp [walkSeq]) J (by rw [hJ]; exact ⟨⟨[], by simp⟩, none, rfl⟩) (fun i v ρ h5 hx hi => ?_) fun ρ h5 hi => ?_
  · rw [hJ] at hi
    obtain ⟨⟨t5, rfl⟩, e7, rfl⟩ := hi
    refine ⟨fun w hw => by rw [List.mem_singleton.mp hw]; exact keep t5, [some (.cl (ns.map PV.int)), some (.ref 2), some (mq a1 b1), some (mq a2 b2), some (mq a3 b3), some (fq x), some (fq y), some v, none, none, none, none], rfl, ?_⟩
    have hv := List.mem_of_getElem? hx
    simp only [List.mem_cons, List.not_mem_nil, or_false] at hv
    have nx : ∀ t6, J (i + 1) [some (.cl (ns.map PV.int)), some (.ref 2), some (mq a1 b1), some (mq a2 b2), some (mq a3 b3), some (fq x), some (fq y), some v, none, none, none, none] (h4 ++ [PO.lst [mq a1 b1, mq a2 b2, mq 1 0]] ++ t5 ++ t6) := fun t6 => by
      rw [hJ]
      exact ⟨⟨t5 ++ t6, by simp⟩, _, rfl⟩
    rcases hv with rfl | rfl | rfl
    · exact k02_turn t tl h7 z1 A1 B1 qx rfl rfl nx
    · exact k02_turn t tl h7 z2 A2 B2 qx rfl rfl nx
    · exact k02_turn t tl h7 (by decide) (q1.mono (by decide)) (q0.mono (by decide)) qx rfl rfl nx
  · rw [hJ] at hi
    obtain ⟨⟨t5, rfl⟩, e7, rfl⟩ := hi
    refine ⟨fun w hw => by rw [List.mem_singleton.mp hw]; exact keep t5, ?_⟩
    generalize h4 ++ [PO.lst [mq a1 b1, mq a2 b2, mq 1 0]] ++ t5 = h5
    have th12 : ∀ h : PH, call tbl 11 22 [mq a1 b1, mq a2 b2] h = .ok (mq (a2 * a1) (a2 * b1 + b2)) h := fun h => then_eq (k := 5) t A1 B1 A2 B2 (by decide)
    have thL : ∀ h : PH, call tbl 11 27 [mq a1 b1, mq a2 b2] h = .ok (mq (a2 * a1) (a2 * b1 + b2)) h := fun h => thenL_eq (k := 7) tl A1 B1 A2 B2 (by decide)
    have QA : Qs 401 (a2 * a1) := (A2.mul A1).mono (by decide)
    have QB : Qs 601 (a2 * b1 + b2) := (A2.mul B1).add B2
    have rdB : ∀ h : PH, call tbl 11 21 [mq (a2 * a1) (a2 * b1 + b2), fq x] h = .ok (fq (a2 * a1 * x + (a2 * b1 + b2))) h := fun h => read_eq (k := 6) t QA QB qx (by decide)
    have rd1 : ∀ (z : Rat) (n : Nat) (h : PH), n ≤ 1000 → Qs n z → call tbl 11 21 [mq a1 b1, fq z] h = .ok (fq (a1 * z + b1)) h := fun z n h hn hz => read_eq (k := 6) t A1 B1 hz (by omega)
    have rd2 : ∀ (z : Rat) (n : Nat) (h : PH), n ≤ 1000 → Qs n z → call tbl 11 21 [mq a2 b2, fq z] h = .ok (fq (a2 * z + b2)) h := fun z n h hn hz => read_eq (k := 6) t A2 B2 hz (by omega)
    have th3 : ∀ h : PH, call tbl 11 22 [mq (a2 * a1) (a2 * b1 + b2), mq a3 b3] h = .ok (mq (a3 * (a2 * a1)) (a3 * (a2 * b1 + b2) + b3)) h := fun h => then_eq (k := 5) t (QA.mono (show 401 ≤ 601 by decide)) QB A3 B3 (by decide)
    have th23 : ∀ h : PH, call tbl 11 22 [mq a2 b2, mq a3 b3] h = .ok (mq (a3 * a2) (a3 * b2 + b3)) h := fun h => then_eq (k := 5) t A2 B2 A3 B3 (by decide)
    have th123 : ∀ h : PH, call tbl 11 22 [mq a1 b1, mq (a3 * a2) (a3 * b2 + b3)] h = .ok (mq (a3 * a2 * a1) (a3 * a2 * b1 + (a3 * b2 + b3))) h := fun h => then_eq (k := 5) t A1 B1 ((A3.mul A2).mono (show 400 ≤ 601 by decide)) ((A3.mul B2).add B3) (by decide)
    have rdS : ∀ h : PH, call tbl 11 21 [mq 1 0, fq x] h = .ok (fq (1 * x + 0)) h := fun h => read_eq (k := 6) t q1 q0 qx (by decide)
    have QX : Qs 401 (a1 * x + b1 : Rat) → True := fun _ => trivial
    have Q1x : Qs 601 (a1 * x + b1) := (A1.mul qx).add B1
    have Q1y : Qs 601 (a1 * y + b1) := (A1.mul qy).add B1
    rw [x_cons]
    simp [th12]
    rw [x_cons]
    simp [thL]
    refine same (same_mq _ _) fun t6 => ?_
    simp [e10]
    refine same (same_mq _ _) fun t7 => ?_
    simp
    rw [x_cons]
    simp [rdB, rd1 x 200 _ (by decide) qx, rd2 _ 601 _ (by decide) Q1x]
    rw [show a2 * a1 * x + (a2 * b1 + b2) = a2 * (a1 * x + b1) + b2 by grind]
    refine same (same_fq _) fun t8 => ?_
    simp
    rw [x_cons]
    simp [th3, th23, th123, rdS]
    rw [c_neM _ _ _ _ _ (by grind) (by grind)]
    simp [e10, rdS]
    rw [c_neF _ _ _ (by grind)]
    simp
    have en : PV.tup [.int (-y.num), .int (y.den : Nat)] = fq (-y) := rfl
    have en' : PV.tup [.int (0 - y.num), .int (y.den : Nat)] = fq (-y) := by rw [Int.zero_sub]; rfl
    have e1m : PV.tup [.int (-1), .int 1] = fq (-1) := rfl
    have qm : Qs 1 (-1) := q1.neg
    have pl1 : ∀ h : PH, call tbl 11 24 [fq x, fq (-y)] h = .ok (fq (x + -y)) h := fun h => plusL_eq (k := 9) tl.h9 tl.h24 qx qy.neg (by decide)
    have ti1 : ∀ h : PH, call tbl 11 25 [fq (-1), fq (a1 * y + b1)] h = .ok (fq (-1 * (a1 * y + b1))) h := fun h => timesL_eq (k := 9) tl.h9 tl.h25 qm Q1y (by decide)
    have pl2 : ∀ h : PH, call tbl 11 24 [fq (a1 * x + b1), fq (-1 * (a1 * y + b1))] h = .ok (fq (a1 * x + b1 + -1 * (a1 * y + b1))) h := fun h => plusL_eq (k := 9) tl.h9 tl.h24 Q1x (qm.mul Q1y) (by decide)
    have sr : ∀ h : PH, call tbl 11 20 [mq a1 b1, fq (x + -y)] h = .ok (fq (a1 * (x + -y))) h := fun h => stretch_eq (k := 7) t A1 (qx.add qy.neg) (by decide)
    rw [x_cons]
    simp [fq0, fq1, en, en', pl1]
    rw [x_cons]
    simp [rd1 x 200 _ (by decide) qx, rd1 y 200 _ (by decide) qy, e1m, ti1, pl2]
    simp [sr]
    rw [show a1 * x + b1 + -1 * (a1 * y + b1) = a1 * (x + -y) by grind]
    exact same (same_fq _) fun t9 => rfl
end
end Sb

set_option Elab.async false
set_option linter.all false
namespace Sb
theorem law_true : ∀ ns : List Int, ns.length ≤ 63 → ∃ h, call tbl LV 31 [.cl (ns.map PV.int)] [] = .ok (.bl true) h := fun ns hn => by
  obtain ⟨v, h, e, rfl⟩ := (k02_law (tbl := tbl) ⟨rfl, rfl, rfl, rfl, rfl, rfl, rfl, rfl, rfl, rfl⟩ ⟨rfl, rfl, rfl, rfl, rfl, rfl⟩ rfl rfl rfl rfl rfl rfl rfl hn).ex
  exact ⟨h, e⟩
end Sb

open PySem PySem.W PySem.Calls PyProof.Rows
set_option maxHeartbeats 0 in
theorem PySem.Challenge.cw_scalebook_k02_moves_holds : PySem.Challenge.rw_scalebook_k02_moves.Holds := by
  w_on; o_law
  refine HandSHeadRun.head_any (r := OpenLaw.row PySem.Challenge.rw_scalebook_k02_moves) (q := view (OpenLaw.row PySem.Challenge.rw_scalebook_k02_moves).prog [30]) (H := Sb.hookE 5 Sb.hfa Sb.hfn Sb.hex) (ob := Sb.obsE 5 Sb.hfa Sb.hfn Sb.hex) (M := 3000) (loose := Sb.loose) (d := HandSHeadRun.topDef (OpenLaw.row PySem.Challenge.rw_scalebook_k02_moves).prog 30) (kwd := []) Sb.obsE_eq
    (by kernel_rfl) (fun s => by kernel_rfl) Sb.run (by kernel_rfl) (by kernel_rfl) (by kernel_rfl) (by rfl) (by first | assumption | decide +kernel) (by decide +kernel) ⟨rfl, rfl, rfl, rfl, rfl, by decide +kernel⟩ ?hw ?hc
  case hw => w_witness2
  case hc =>
    refine Sb.walk_ofW (l := PySem.Challenge.rw_scalebook_k02_moves) (n := 63) (k := Sb.LV) (x := "_law_script") rfl (by decide) (by kernel_rfl) ⟨rfl, by decide, by decide⟩ ?F
    intro w mg fa h Y G hmg0
    obtain ⟨K, KX, c, e⟩ := Y
    have hmg : mg ("law" : PySem.Str) = some (.ref fa) := by
      have e : (HandSHeadRun.topDef (OpenLaw.row PySem.Challenge.rw_scalebook_k02_moves).prog 30).name = ("law" : PySem.Str) := by kernel_rfl
      rw [← e]
      exact hmg0
    obtain ⟨fd, hb, hF⟩ := Sb.law_fn (P := (PySem.Challenge.rw_scalebook_k02_moves).prog) (w := w) KX G hmg c e
    exact ⟨K, fd, _, KX, hb, fun H a ns hl hO hS => Sb.law_end Sb.law_true H a ns hl hO hS, hF⟩
