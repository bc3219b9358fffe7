import PyProof.Rows.All
import Wide.All
import OpenK.AllK
import Wide.FinOn
import KE.KStateDown
import HandS.ForMost
import HandS.ForExc
import HandS.Deep
import HandS.IsInst
import HandS.Conv
import HandS.Codes
import HandS.Style
import HandS.Small
import HandS.DictComp
import HandS.TupAny
import KE.SortData
import HandS.TupLen
import KE.KDictPairs
import HandS.Defaults
import HandS.Head2
import HandS.HeadEnd
import HandS.HeadHook2
import KE.KEqDict
import KE.KSuper
import KE.KExcSuper
import HandS.ExcInit
import HandS.ExcIs
import HandS.ExcField
import HandS.SetFor
import HandS.Strs
import HandS.TupSets
import HandS.ListItems
import HandS.HeadHook4
import PySem.Challenge.RW_sealwright_k44_orders_of_units
import Lean
set_option Elab.async false
set_option linter.all false
set_option maxRecDepth 100000
/-! Core: a small language of values (no heap) for the programs at hand: its terms, its runs, and how a program's own text is turned into it. -/
namespace SW
open PySem

abbrev D := PyData

/-- what a name holds: a value for good, or a list or a dict that is this name's alone -/
inductive O where
  | val (d : D)
  | lst (ds : List D)
  | dct (kvs : List (D × D))
def O.data : O → D
  | .val d => d
  | .lst ds => .list ds
  | .dct kvs => .dict kvs
abbrev Rho := List (Option O)
/-- an expression's outcome: a name's place, or a value -/
inductive A where
  | pl (i : Nat)
  | vl (o : O)
structure Exn where
  cls : Str
  arg : D
inductive R (α : Type) where
  | ok (x : α) (ρ : Rho)
  | exc (e : Exn) (ρ : Rho)
  | bad
/-- a call's outcome -/
inductive C where
  | ok (o : O) (os : List O)
  | exc (e : Exn) (os : List O)
  | bad
/-- a statement's -/
inductive S where
  | nx (ρ : Rho)
  | rt (o : O) (ρ : Rho)
  | bk (ρ : Rho)
  | ct (ρ : Rho)
  | exc (e : Exn) (ρ : Rho)
  | bad

/-! ### values -/
def slot (ρ : Rho) (i : Nat) : Option O := (ρ[i]?).join
def look : A → Rho → Option D
  | .pl i, ρ => (slot ρ i).map O.data
  | .vl o, _ => some o.data
/-- taken as a value for good -/
def frz : A → Rho → Option (D × Rho)
  | .vl o, ρ => some (o.data, ρ)
  | .pl i, ρ => match slot ρ i with
    | some (.val d) => some (d, ρ)
    | some o => some (o.data, ρ.set i (some (.val o.data)))
    | none => none
/-- taken to be bound to a name: a new list stays the name's own -/
def take : A → Rho → Option (O × Rho)
  | .vl o, ρ => some (o, ρ)
  | .pl i, ρ => match slot ρ i with
    | some (.val d) => some (.val d, ρ)
    | some o => some (.val o.data, ρ.set i (some (.val o.data)))
    | none => none
/-- taken out of the frame: a name that is no parameter gives away what it owns -/
def give (np : Nat) : A → Rho → Option (O × Rho)
  | .vl o, ρ => some (o, ρ)
  | .pl i, ρ => match slot ρ i with
    | some (.val d) => some (.val d, ρ)
    | some o => if i < np then some (.val o.data, ρ.set i (some (.val o.data))) else some (o, ρ.set i none)
    | none => none

def isKey1 : D → Bool
  | .int _ => true
  | .str _ => true
  | _ => false
def isKey : D → Bool
  | .int _ => true
  | .str _ => true
  | .tuple ds => ds.all isKey1
  | _ => false
def dget (kvs : List (D × D)) (k : D) : Option D := (kvs.find? fun p => PyData.eqv p.1 k).map (·.2)
def dput (kvs : List (D × D)) (k v : D) : List (D × D) :=
  if (kvs.any fun p => PyData.eqv p.1 k) = true then kvs.map (fun p => if PyData.eqv p.1 k = true then (p.1, v) else p) else kvs ++ [(k, v)]
/-- a dict's keys are all ints and texts, or all tuples of such -/
def sameKind : D → D → Bool
  | .tuple _, .tuple _ => true
  | .tuple _, _ => false
  | _, .tuple _ => false
  | _, _ => true
def keyFits (kvs : List (D × D)) (k : D) : Bool := isKey k && kvs.all fun p => sameKind p.1 k

def chr1 (c : Nat) : D := .str ⟨#[c]⟩
/-- what is walked -/
def items : D → Option (List D)
  | .list ds => some ds
  | .tuple ds => some ds
  | .str x => some (x.cps.toList.map chr1)
  | .dict kvs => if (kvs.all fun p => isKey1 p.1) = true then some (kvs.map (·.1)) else none
  | _ => none

def tyName : D → String
  | .none => "NoneType"
  | .bool _ => "bool"
  | .int _ => "int"
  | .str _ => "str"
  | .list _ => "list"
  | .tuple _ => "tuple"
  | .dict _ => "dict"
def isi1 (d : D) (t : String) : Bool := tyName d == t || (tyName d == "bool" && t == "int")
def isiAny (d : D) (ts : List String) : Bool := ts.any (isi1 d)

/-- an int, for the model's product -/
def mulOk (i j : Int) : Bool := decide (-(2 ^ 64) < i ∧ i < 2 ^ 64) || decide (-(2 ^ 64) < j ∧ j < 2 ^ 64)
def catOk (m n : Nat) : Bool := decide (m + n ≤ sizeLine)

def binD : Operator → D → D → Option O
  | .Add, .int i, .int j => some (.val (.int (i + j)))
  | .Sub, .int i, .int j => some (.val (.int (i - j)))
  | .Mult, .int i, .int j => if mulOk i j = true then some (.val (.int (i * j))) else none
  | .FloorDiv, .int i, .int j => if 0 < j ∧ j < 1073741824 then some (.val (.int (i / j))) else none
  | .Mod, .int i, .int j => if 0 < j then some (.val (.int (i % j))) else none
  | .Pow, .int i, .int j => if 0 ≤ j ∧ j ≤ 1000000 ∧ i.natAbs < 2 ^ 64 then some (.val (.int (i ^ j.toNat))) else none
  | .Add, .str x, .str y => if catOk x.length y.length = true then some (.val (.str (x ++ y))) else none
  | .Add, .list xs, .list ys => if catOk xs.length ys.length = true then some (.lst (xs ++ ys)) else none
  | .Add, .tuple xs, .tuple ys => if catOk xs.length ys.length = true then some (.val (.tuple (xs ++ ys))) else none
  | .Mult, .str x, .int n => if 0 ≤ n ∧ n ≤ 16777216 ∧ x.length * n.toNat ≤ sizeLine then some (.val (.str (Txt.mul x n))) else none
  | _, _, _ => none

def eqOk (d e : D) : Bool := SeqAt.shaped d && SeqAt.shaped e
def cmpInt (f : Int → Int → Bool) : D → D → Option Bool
  | .int i, .int j => some (f i j)
  | _, _ => none
def strIn (x y : Str) : Bool := !(Builtin.Str.occurrences y x 0 y.length 1).isEmpty
def inD (x : D) : D → Option Bool
  | .list ds => if eqOk x (.list ds) = true then some (ds.any fun z => PyData.eqv z x) else none
  | .tuple ds => if eqOk x (.tuple ds) = true then some (ds.any fun z => PyData.eqv z x) else none
  | .dict kvs => if keyFits kvs x = true then some (dget kvs x).isSome else none
  | .str y => match x with
    | .str z => some (strIn z y)
    | _ => none
  | _ => none
def isNone : D → Bool
  | .none => true
  | _ => false
/-- is: of None, of bools -/
def isD : D → D → Option Bool
  | d, .none => some (isNone d)
  | .bool a, .bool b => some (a == b)
  | .none, .bool _ => some false
  | _, _ => none
def flatD : D → Bool
  | .none => true
  | .bool _ => true
  | .int _ => true
  | .str _ => true
  | _ => false
/-- == of dicts: keys ints and texts, values without parts -/
def dEqOk (a b : List (D × D)) : Bool := (a.all fun p => isKey1 p.1 && flatD p.2) && (b.all fun p => isKey1 p.1 && flatD p.2)
def dEqB (a b : List (D × D)) : Bool := (a.length == b.length) && a.all fun p => match dget b p.1 with
  | some v => PyData.eqv p.2 v
  | none => false
def dEq : D → D → Option Bool
  | .dict a, .dict b => if dEqOk a b = true then some (dEqB a b) else none
  | _, _ => none
def cmpD : CmpOp → D → D → Option Bool
  | .Eq, d, e => if eqOk d e = true then some (PyData.eqv d e) else dEq d e
  | .NotEq, d, e => if eqOk d e = true then some (!PyData.eqv d e) else (dEq d e).map (!·)
  | .Lt, d, e => cmpInt (fun i j => decide (i < j)) d e
  | .LtE, d, e => cmpInt (fun i j => decide (i ≤ j)) d e
  | .Gt, d, e => cmpInt (fun i j => decide (j < i)) d e
  | .GtE, d, e => cmpInt (fun i j => decide (j ≤ i)) d e
  | .Is, d, e => isD d e
  | .IsNot, d, e => (isD d e).map (!·)
  | .In, d, e => inD d e
  | .NotIn, d, e => (inD d e).map (!·)

/-- an item at an index of either sign -/
def idxD : D → D → Option D
  | .list ds, .int i => atI' ds i
  | .tuple ds, .int i => atI' ds i
  | .str x, .int i => if x.length ≤ sizeLine then (atI' x.cps.toList i).map chr1 else none
  | .dict kvs, k => if keyFits kvs k = true then dget kvs k else none
  | _, _ => none
where atI' {α : Type} (xs : List α) (i : Int) : Option α := L2.atI xs i
def cutL {α : Type} (xs : List α) (lo hi : Option Int) : List α := (xs.drop (HT.sIx xs.length 0 lo)).take (HT.sIx xs.length xs.length hi - HT.sIx xs.length 0 lo)
def intO : Option D → Option (Option Int)
  | none => some none
  | some (.int i) => some (some i)
  | some _ => none
def slcD (d : D) (lo hi : Option Int) : Option O :=
  match d with
  | .list ds => some (.lst (cutL ds lo hi))
  | .tuple ds => some (.val (.tuple (cutL ds lo hi)))
  | .str x => if x.length ≤ sizeLine then some (.val (.str (L2.cutS x lo hi))) else none
  | _ => none
def lenD : D → Option Int
  | .list ds => some ds.length
  | .tuple ds => some ds.length
  | .str x => if x.length ≤ sizeLine then some x.length else none
  | .dict kvs => some kvs.length
  | _ => none

/-! ### the terms -/
/-- built-in functions -/
inductive Blt where
  | len | list | tuple | int | all | any | dict | sorted | str | set
  deriving DecidableEq
/-- methods of built-in types that change nothing -/
inductive Mth where
  | get1 | get2 | join | upper
  deriving DecidableEq
/-- methods that change the list or dict of a name -/
inductive Mut where
  | append | pop0 | popAt
  deriving DecidableEq
/-- more of one operand -/
inductive Uop where
  | srtSet | itms | rev
  deriving DecidableEq
inductive MT where
  | name (i : Nat)
  | tup (is : List Nat)
inductive ME where
  | bad
  | var (i : Nat)
  | lit (d : D)
  | bin (op : Operator) (a b : ME)
  | neg (a : ME)
  | notE (a : ME)
  | cmp (op : CmpOp) (a b : ME)
  | chn (op1 op2 : CmpOp) (a b c : ME)
  | andE (a b : ME)
  | orE (a b : ME)
  | ifE (c a b : ME)
  | tupE (es : List ME)
  | lstE (es : List ME)
  | dctE (ks : List D) (vs : List ME)
  | idx (a b : ME)
  | slc (a : ME) (lo hi : Option ME)
  | isi (a : ME) (ts : List String) (tup : Bool)
  | call (f : Str) (es : List ME)
  | blt (b : Blt) (a : ME)
  | un (u : Uop) (a : ME)
  | mn (mx : Bool) (a b : ME)
  | mth (m : Mth) (o : ME) (es : List ME)
  | mut (m : Mut) (i : Nat) (es : List ME)
  | lc (t : MT) (r : Bool) (its : List ME) (cond : Option ME) (elt : ME)
  | dct1 (k v : ME)
  | dcm (t : MT) (r : Bool) (its : List ME) (cond : Option ME) (k v : ME)
inductive MS where
  | bad
  | pass
  | asg (t : MT) (e : ME)
  | par (i j : Nat) (a b : ME)
  | sub (i : Nat) (k e : ME)
  | swp (i : Nat) (k1 k2 e1 e2 : ME)
  | aug (i : Nat) (op : Operator) (e : ME)
  | expr (e : ME)
  | ret (e : ME)
  | retN
  | ifS (c : ME) (a b : List MS)
  | whl (c : ME) (b : List MS)
  | forS (t : MT) (r : Bool) (its : List ME) (b : List MS)
  | brk
  | cnt
  | rz (C : Str) (e : ME)
  | tryS (e : ME) (hs : List (Str × Str))

/-! ### runs -/
structure Ctx where
  call : Str → List O → C
  W : Nat

/-- frames -/
def kLook {α : Type} (f : D → Rho → R α) : R A → R α
  | .ok x ρ => match look x ρ with
    | some d => f d ρ
    | none => .bad
  | .exc e ρ => .exc e ρ
  | .bad => .bad
def kFrz {α : Type} (f : D → Rho → R α) : R A → R α
  | .ok x ρ => match frz x ρ with
    | some (d, ρ') => f d ρ'
    | none => .bad
  | .exc e ρ => .exc e ρ
  | .bad => .bad
def rO (o : Option O) (ρ : Rho) : R A := match o with
  | some o => .ok (.vl o) ρ
  | none => .bad
def rD (o : Option D) (ρ : Rho) : R A := match o with
  | some d => .ok (.vl (.val d)) ρ
  | none => .bad
def rB (o : Option Bool) (ρ : Rho) : R A := match o with
  | some b => .ok (.vl (.val (.bool b))) ρ
  | none => .bad
def kBin2 (f : D → D → Rho → R A) (x : A) : R A → R A
  | .ok y ρ => match look x ρ, look y ρ with
    | some d, some e => f d e ρ
    | _, _ => .bad
  | .exc e ρ => .exc e ρ
  | .bad => .bad
def kBin1 (f : D → D → Rho → R A) (eb : Rho → R A) : R A → R A
  | .ok x ρ => kBin2 f x (eb ρ)
  | .exc e ρ => .exc e ρ
  | .bad => .bad
def fBin (op : Operator) (d e : D) (ρ : Rho) : R A := rO (binD op d e) ρ
def fCmp (op : CmpOp) (d e : D) (ρ : Rho) : R A := rB (cmpD op d e) ρ
def fIdx (d e : D) (ρ : Rho) : R A := rD (idxD d e) ρ
def fNeg (d : D) (ρ : Rho) : R A := match d with
  | .int i => .ok (.vl (.val (.int (-i)))) ρ
  | _ => .bad
def fNot (d : D) (ρ : Rho) : R A := match d with
  | .bool b => .ok (.vl (.val (.bool (!b)))) ρ
  | _ => .bad
/-- chain: the first answer -/
def kChn2 (op1 op2 : CmpOp) (ec : Rho → R A) (x : A) : R A → R A
  | .ok y ρ => match look x ρ, look y ρ with
    | some d, some e => match cmpD op1 d e with
      | some b => bif b then kBin2 (fCmp op2) y (ec ρ) else .ok (.vl (.val (.bool false))) ρ
      | none => .bad
    | _, _ => .bad
  | .exc e ρ => .exc e ρ
  | .bad => .bad
def kChn1 (op1 op2 : CmpOp) (eb ec : Rho → R A) : R A → R A
  | .ok x ρ => kChn2 op1 op2 ec x (eb ρ)
  | .exc e ρ => .exc e ρ
  | .bad => .bad
/-- a test -/
def kTst {α : Type} (y n : Rho → R α) : R A → R α
  | .ok x ρ => match look x ρ with
    | some (.bool b) => bif b then y ρ else n ρ
    | _ => .bad
  | .exc e ρ => .exc e ρ
  | .bad => .bad
def cBool (b : Bool) (ρ : Rho) : R A := .ok (.vl (.val (.bool b))) ρ
/-- values for good, from the left -/
def kVals2 (d : D) : R (List D) → R (List D)
  | .ok ds ρ => .ok (d :: ds) ρ
  | .exc e ρ => .exc e ρ
  | .bad => .bad
def kVals1 (es : Rho → R (List D)) (d : D) (ρ : Rho) : R (List D) := kVals2 d (es ρ)
/-- two values for good -/
def kTwo (fb : Rho → R A) : R A → R (List D) := kFrz (kVals1 fun ρ1 => kFrz (kVals1 fun ρ2 => .ok [] ρ2) (fb ρ1))
def kTup : R (List D) → R A
  | .ok ds ρ => .ok (.vl (.val (.tuple ds))) ρ
  | .exc e ρ => .exc e ρ
  | .bad => .bad
def kLst : R (List D) → R A
  | .ok ds ρ => .ok (.vl (.lst ds)) ρ
  | .exc e ρ => .exc e ρ
  | .bad => .bad
/-- slices -/
def kSlc3 (x : A) (lo : Option Int) : R (Option Int) → R A
  | .ok hi ρ => match look x ρ with
    | some d => rO (slcD d lo hi) ρ
    | none => .bad
  | .exc e ρ => .exc e ρ
  | .bad => .bad
def kSlc2 (eh : Rho → R (Option Int)) (x : A) : R (Option Int) → R A
  | .ok lo ρ => kSlc3 x lo (eh ρ)
  | .exc e ρ => .exc e ρ
  | .bad => .bad
def kSlc1 (el eh : Rho → R (Option Int)) : R A → R A
  | .ok x ρ => kSlc2 eh x (el ρ)
  | .exc e ρ => .exc e ρ
  | .bad => .bad
def fPart (d : D) (ρ : Rho) : R (Option Int) := match d with
  | .int i => .ok (some i) ρ
  | _ => .bad
/-- a call's arguments: a name's own list is lent -/
structure Ag where
  o : O
  back : Option Nat
def lend (i : Nat) (ρ : Rho) : Option (Ag × Rho) := match slot ρ i with
  | some (.val d) => some (⟨.val d, none⟩, ρ)
  | some o => some (⟨o, some i⟩, ρ.set i none)
  | none => none
def lend1 : A → Rho → Option (Ag × Rho)
  | .vl o, ρ => some (⟨o, none⟩, ρ)
  | .pl i, ρ => lend i ρ
@[simp] def lendAll : List A → Rho → Option (List Ag × Rho)
  | [], ρ => some ([], ρ)
  | x :: xs, ρ => match lend1 x ρ with
    | some (g, ρ1) => (match lendAll xs ρ1 with
      | some (gs, ρ2) => some (g :: gs, ρ2)
      | none => none)
    | none => none
/-- the lent lists come back -/
@[simp] def putBack : List Ag → List O → Rho → Rho
  | g :: gs, o :: os, ρ => putBack gs os (match g.back with
    | some i => ρ.set i (some o)
    | none => ρ)
  | _, _, ρ => ρ
def kAs2 (x : A) : R (List A) → R (List A)
  | .ok xs ρ => .ok (x :: xs) ρ
  | .exc e ρ => .exc e ρ
  | .bad => .bad
def kAs1 (es : Rho → R (List A)) : R A → R (List A)
  | .ok x ρ => kAs2 x (es ρ)
  | .exc e ρ => .exc e ρ
  | .bad => .bad
def kRet (gs : List Ag) (ρ : Rho) : C → R A
  | .ok o os => .ok (.vl o) (putBack gs os ρ)
  | .exc e _ => .exc e ρ
  | .bad => .bad
def kCall (call : List O → C) : R (List A) → R A
  | .ok xs ρ => match lendAll xs ρ with
    | some (gs, ρ') => kRet gs ρ' (call (gs.map (·.o)))
    | none => .bad
  | .exc e ρ => .exc e ρ
  | .bad => .bad
@[simp] def boolsOf : List D → Option (List Bool)
  | [] => some []
  | .bool b :: r => (boolsOf r).map (b :: ·)
  | _ :: _ => none
@[simp] def pairsOf : List D → Option (List (D × D))
  | [] => some []
  | .tuple [k, v] :: r => (pairsOf r).map ((k, v) :: ·)
  | _ :: _ => none
@[simp] def dputAll : List (D × D) → List (D × D) → Option (List (D × D))
  | kvs, [] => some kvs
  | kvs, (k, v) :: r => if keyFits kvs k = true then dputAll (dput kvs k v) r else none
def kDct (ks : List D) : R (List D) → R A
  | .ok ds ρ => match dputAll [] (ks.zip ds) with
    | some kvs => .ok (.vl (.dct kvs)) ρ
    | none => .bad
  | .exc e ρ => .exc e ρ
  | .bad => .bad
/-- {k: v} of one entry -/
def kDct1 : R (List D) → R A
  | .ok [k, d] ρ => if isKey1 k = true then .ok (.vl (.dct [(k, d)])) ρ else .bad
  | .ok _ _ => .bad
  | .exc e ρ => .exc e ρ
  | .bad => .bad
@[simp] def strsOf : List D → Option (List Str)
  | [] => some []
  | .str x :: r => (strsOf r).map (x :: ·)
  | _ :: _ => none
@[simp] def intsOf : List D → Option (List Int)
  | [] => some []
  | .int x :: r => (intsOf r).map (x :: ·)
  | _ :: _ => none
@[simp] def insS (x : Str) : List Str → List Str
  | [] => [x]
  | y :: r => bif PySem.Spec.ltCps y.cps.toList x.cps.toList then y :: insS x r else x :: y :: r
@[simp] def sortS : List Str → List Str
  | [] => []
  | x :: r => insS x (sortS r)
@[simp] def insI (x : Int) : List Int → List Int
  | [] => [x]
  | y :: r => bif decide (y < x) then y :: insI x r else x :: y :: r
@[simp] def sortI : List Int → List Int
  | [] => []
  | x :: r => insI x (sortI r)
/-- sorted of texts, of ints -/
def srt0 (ds : List D) : Option O := if ds.length < 64 then (match strsOf ds with
  | some xs => some (.lst ((sortS xs).map .str))
  | none => (intsOf ds).map fun ns => .lst ((sortI ns).map .int)) else none
def isTup1 : D → Bool
  | .tuple (_ :: _) => true
  | _ => false
def noTup : D → Bool
  | .tuple _ => false
  | .none => false
  | _ => true
/-- sorted of data that are alike -/
def srtOk (ds : List D) : Bool := (ds.all fun d => ds.all fun e => PySem.W.alike d e) && (ds.all isTup1 || ds.all noTup) && (ds.all fun d => d.canLay0 && decide (d.depth ≤ 40)) && decide (ds.length ≤ 100000)
def srtG (ds : List D) : Option O := if srtOk ds = true then some (.lst (ds.mergeSort (PySem.W.dataLe false id))) else none
def srtD (ds : List D) : Option O := match srt0 ds with
  | some o => some o
  | none => srtG ds
def bltD : Blt → D → Option O
  | .len, d => (lenD d).map fun n => .val (.int n)
  | .list, .list ds => some (.lst ds)
  | .list, .tuple ds => some (.lst ds)
  | .tuple, .list ds => some (.val (.tuple ds))
  | .tuple, .tuple ds => some (.val (.tuple ds))
  | .int, .int i => some (.val (.int i))
  | .int, .bool b => some (.val (.int (if b then 1 else 0)))
  | .all, .list ds => (boolsOf ds).map fun bs => .val (.bool (bs.all id))
  | .any, .list ds => (boolsOf ds).map fun bs => .val (.bool (bs.any id))
  | .sorted, .list ds => srtD ds
  | .dict, .list ds => if ds.length ≤ 1000000 then ((pairsOf ds).bind (dputAll [])).map .dct else none
  | .dict, .dict kvs => if (kvs.all fun p => isKey1 p.1) = true then some (.dct kvs) else none
  | .list, .dict kvs => if (kvs.all fun p => isKey1 p.1) = true then some (.lst (kvs.map (·.1))) else none
  | .str, .int i => if i.natAbs.log2 < 1920 then some (.val (.str (Str.ofString (toString i)))) else none
  | _, _ => none
/-- each once -/
@[simp] def nubS : List Str → List Str
  | [] => []
  | x :: r => if x ∈ r then nubS r else x :: nubS r
@[simp] def nubT : List (List Str) → List (List Str)
  | [] => []
  | x :: r => if x ∈ r then nubT r else x :: nubT r
/-- a tuple of texts -/
def encT (k : List Str) : D := .tuple (k.map .str)
@[simp] def tupsOf : List D → Option (List (List Str))
  | [] => some []
  | .tuple ds :: r => match strsOf ds, tupsOf r with
    | some k, some ks => if k ≠ [] then some (k :: ks) else none
    | _, _ => none
  | _ :: _ => none
def srtT (ks : List (List Str)) : List D := ((nubT ks).map encT).mergeSort (PySem.W.dataLe false id)
/-- of texts, of tuples of texts -/
def srtSetD (ds : List D) : Option O := match strsOf ds with
  | some xs => some (.lst ((sortS (nubS xs)).map .str))
  | none => (tupsOf ds).map fun ks => .lst (srtT ks)
/-- sorted(set(d)), list(d.items()), d[::-1] -/
def unD : Uop → D → Option O
  | .srtSet, .list ds => if ds.length < 64 then srtSetD ds else none
  | .itms, .dict kvs => if (kvs.all fun p => isKey1 p.1) = true then some (.lst (kvs.map fun p => .tuple [p.1, p.2])) else none
  | .rev, .list ds => some (.lst ds.reverse)
  | _, _ => none
def fUn (u : Uop) (d : D) (ρ : Rho) : R A := rO (unD u d) ρ
/-- min, max of two -/
def mnI (mx : Bool) (i j : Int) : Int := bif mx then (if j > i then j else i) else (if j < i then j else i)
def kMn (mx : Bool) : R (List D) → R A
  | .ok [.int i, .int j] ρ => .ok (.vl (.val (.int (mnI mx i j)))) ρ
  | .ok _ _ => .bad
  | .exc e ρ => .exc e ρ
  | .bad => .bad
def fBlt (b : Blt) (d : D) (ρ : Rho) : R A := rO (bltD b d) ρ
def fIsi (ts : List String) (d : D) (ρ : Rho) : R A := .ok (.vl (.val (.bool (isiAny d ts)))) ρ
def joinLen (y : Str) (xs : List Str) : Nat := (xs.map (·.length)).sum + xs.length * y.length
def mthD : Mth → D → List D → Option O
  | .get1, .dict kvs, [k] => if keyFits kvs k = true then some (.val ((dget kvs k).getD .none)) else none
  | .get2, .dict kvs, [k, v] => if keyFits kvs k = true then some (.val ((dget kvs k).getD v)) else none
  | .join, .str y, [.list ds] => joined y ds
  | .join, .str y, [.tuple ds] => joined y ds
  | .upper, .str x, [] => if x.length ≤ 5592405 then some (.val (.str (Txt.upper x))) else none
  | _, _, _ => none
where joined (y : Str) (ds : List D) : Option O := match strsOf ds with
  | some xs => if joinLen y xs ≤ sizeLine then some (.val (.str (Txt.join y xs))) else none
  | none => none
def kMth2 (m : Mth) (x : A) : R (List D) → R A
  | .ok ds ρ => match look x ρ with
    | some d => rO (mthD m d ds) ρ
    | none => .bad
  | .exc e ρ => .exc e ρ
  | .bad => .bad
def mthTy : Mth → String
  | .get1 => "dict"
  | .get2 => "dict"
  | .join => "str"
  | .upper => "str"
def kMth1 (m : Mth) (es : Rho → R (List D)) : R A → R A
  | .ok x ρ => match look x ρ with
    | some d => if tyName d = mthTy m then kMth2 m x (es ρ) else .bad
    | none => .bad
  | .exc e ρ => .exc e ρ
  | .bad => .bad
/-- a name's list changed: what it gives, what it is then -/
def mutD : Mut → List D → List D → Option (D × List D)
  | .append, xs, [d] => if xs.length < sizeLine then some (.none, xs ++ [d]) else none
  | .pop0, xs, [] => (xs[xs.length - 1]?).map fun y => (y, xs.dropLast)
  | .popAt, xs, [.int i] => if -(2 ^ 63) ≤ i ∧ i < 2 ^ 63 then (seqIndex? i xs.length).bind fun k => (xs[k]?).map fun y => (y, xs.eraseIdx k) else none
  | _, _, _ => none
def kMut (m : Mut) (i : Nat) : R (List D) → R A
  | .ok ds ρ => match slot ρ i with
    | some (.lst xs) => match mutD m xs ds with
      | some (y, xs') => .ok (.vl (.val y)) (ρ.set i (some (.lst xs')))
      | none => .bad
    | _ => .bad
  | .exc e ρ => .exc e ρ
  | .bad => .bad
def kMut0 (i : Nat) (f : Rho → R A) (ρ : Rho) : R A := match slot ρ i with
  | some (.lst _) => f ρ
  | _ => .bad
@[simp] def bindL : List Nat → List D → Rho → Option Rho
  | [], [], ρ => some ρ
  | i :: is, d :: ds, ρ => bindL is ds (ρ.set i (some (.val d)))
  | _, _, _ => none
/-- binding a target -/
def bindT : MT → O → Rho → Option Rho
  | .name i, o, ρ => some (ρ.set i (some o))
  | .tup is, o, ρ => match o.data with
    | .tuple ds => bindL is ds ρ
    | _ => none
def MT.slots : MT → List Nat
  | .name i => [i]
  | .tup is => is
@[simp] def wipeR (ρ : Rho) : List Nat → Rho
  | [] => ρ
  | i :: is => (wipeR ρ is).set i none
@[simp] def backR (ρ0 : Rho) : Rho → List Nat → Rho
  | ρ, [] => ρ
  | ρ, i :: is => backR ρ0 (ρ.set i (slot ρ0 i)) is
/-- a comprehension: the items one by one -/
def lcL (f : D → Rho → R (Option D)) : List D → List D → Rho → R (List D)
  | [], acc, ρ => .ok acc ρ
  | d :: ds, acc, ρ => match f d ρ with
    | .ok (some x) ρ' => if acc.length < sizeLine then lcL f ds (acc ++ [x]) ρ' else .bad
    | .ok none ρ' => lcL f ds acc ρ'
    | _ => .bad
def kSome : R D → R (Option D)
  | .ok d ρ => .ok (some d) ρ
  | .exc e ρ => .exc e ρ
  | .bad => .bad
def rFrz (d : D) (ρ : Rho) : R D := .ok d ρ
def elt1 (ee : Rho → R A) (ρ : Rho) : R (Option D) := kSome (kFrz rFrz (ee ρ))
def none1 (ρ : Rho) : R (Option D) := .ok none ρ
/-- a turn: own slots, binding, the test, the element -/
def lcTurn (t : MT) (cond : Rho → R (Option D)) (d : D) (ρ : Rho) : R (Option D) :=
  match bindT t (.val d) ρ with
  | some ρ1 => match cond ρ1 with
    | .ok x ρ2 => .ok x (wipeR ρ2 t.slots)
    | .exc e ρ2 => .exc e ρ2
    | .bad => .bad
  | none => .bad
def ownFree (ρ : Rho) (is : List Nat) : Bool := is.all fun i => decide (i < ρ.length) && match slot ρ i with
  | none => true
  | some (.val _) => true
  | _ => false
def lcAll (t : MT) (cond : Rho → R (Option D)) (ds : List D) (ρ : Rho) : R A :=
  if ownFree ρ t.slots = true then match lcL (lcTurn t cond) ds [] (wipeR ρ t.slots) with
    | .ok acc ρ' => .ok (.vl (.lst acc)) (backR ρ ρ' t.slots)
    | .exc e ρ' => .exc e (backR ρ ρ' t.slots)
    | .bad => .bad
  else .bad
/-- a dict comprehension -/
def dcL (f : D → Rho → R (Option D)) : List D → List (D × D) → Rho → R (List (D × D))
  | [], acc, ρ => .ok acc ρ
  | d :: ds, acc, ρ => match f d ρ with
    | .ok (some (.tuple [k, v])) ρ' => if isKey1 k = true ∧ acc.length < sizeLine then dcL f ds (dput acc k v) ρ' else .bad
    | .ok none ρ' => dcL f ds acc ρ'
    | _ => .bad
def dcAll (t : MT) (cond : Rho → R (Option D)) (ds : List D) (ρ : Rho) : R A :=
  if ownFree ρ t.slots = true then match dcL (lcTurn t cond) ds [] (wipeR ρ t.slots) with
    | .ok acc ρ' => .ok (.vl (.dct acc)) (backR ρ ρ' t.slots)
    | .exc e ρ' => .exc e (backR ρ ρ' t.slots)
    | .bad => .bad
  else .bad
def fItems (f : List D → Rho → R A) (d : D) (ρ : Rho) : R A := match items d with
  | some ds => f ds ρ
  | none => .bad
/-- a range's ints -/
def rngL (lo hi : Int) : List D := (List.range (hi - lo).toNat).map fun (k : Nat) => .int (lo + k)
def smallI (i : Int) : Bool := decide (-(2 ^ 62) ≤ i ∧ i < 2 ^ 62)
def rngD : List D → Option (List D)
  | [.int j] => if smallI j = true then some (rngL 0 j) else none
  | [.int i, .int j] => if smallI i = true ∧ smallI j = true then some (rngL i j) else none
  | _ => none
def kRng (f : List D → Rho → R A) : R (List D) → R A
  | .ok ds ρ => match rngD ds with
    | some is => f is ρ
    | none => .bad
  | .exc e ρ => .exc e ρ
  | .bad => .bad

mutual
@[simp] def evE (c : Ctx) : ME → Rho → R A
  | .bad => fun _ => .bad
  | .var i => fun ρ => match slot ρ i with
    | some _ => .ok (.pl i) ρ
    | none => .bad
  | .lit d => fun ρ => .ok (.vl (.val d)) ρ
  | .bin op a b => fun ρ => kBin1 (fBin op) (evE c b) (evE c a ρ)
  | .neg a => fun ρ => kLook fNeg (evE c a ρ)
  | .notE a => fun ρ => kLook fNot (evE c a ρ)
  | .cmp op a b => fun ρ => kBin1 (fCmp op) (evE c b) (evE c a ρ)
  | .chn op1 op2 a b d => fun ρ => kChn1 op1 op2 (evE c b) (evE c d) (evE c a ρ)
  | .andE a b => fun ρ => kTst (evE c b) (cBool false) (evE c a ρ)
  | .orE a b => fun ρ => kTst (cBool true) (evE c b) (evE c a ρ)
  | .ifE t a b => fun ρ => kTst (evE c a) (evE c b) (evE c t ρ)
  | .tupE es => fun ρ => kTup (evVs c es ρ)
  | .lstE es => fun ρ => kLst (evVs c es ρ)
  | .dctE ks vs => fun ρ => kDct ks (evVs c vs ρ)
  | .idx a b => fun ρ => kBin1 fIdx (evE c b) (evE c a ρ)
  | .slc a lo hi => fun ρ => kSlc1 (evP c lo) (evP c hi) (evE c a ρ)
  | .isi a ts _ => fun ρ => kLook (fIsi ts) (evE c a ρ)
  | .call f es => fun ρ => kCall (c.call f) (evAs c es ρ)
  | .blt b a => fun ρ => kLook (fBlt b) (evE c a ρ)
  | .un u a => fun ρ => kLook (fUn u) (evE c a ρ)
  | .mn m a b => fun ρ => kMn m (kTwo (evE c b) (evE c a ρ))
  | .mth m o es => fun ρ => kMth1 m (evVs c es) (evE c o ρ)
  | .mut m i es => fun ρ => kMut0 i (fun ρ' => kMut m i (evVs c es ρ')) ρ
  | .lc t r its cond elt => evI c r its (lcAll t (evC c cond (evE c elt)))
  | .dct1 a b => fun ρ => kDct1 (kTwo (evE c b) (evE c a ρ))
  | .dcm t r its cond a b => evI c r its (dcAll t (evC c cond (fun ρ => kTup (kTwo (evE c b) (evE c a ρ)))))
@[simp] def evVs (c : Ctx) : List ME → Rho → R (List D)
  | [] => fun ρ => .ok [] ρ
  | e :: es => fun ρ => kFrz (kVals1 (evVs c es)) (evE c e ρ)
@[simp] def evAs (c : Ctx) : List ME → Rho → R (List A)
  | [] => fun ρ => .ok [] ρ
  | e :: es => fun ρ => kAs1 (evAs c es) (evE c e ρ)
@[simp] def evP (c : Ctx) : Option ME → Rho → R (Option Int)
  | none => fun ρ => .ok none ρ
  | some e => fun ρ => kLook fPart (evE c e ρ)
@[simp] def evC (c : Ctx) : Option ME → (Rho → R A) → Rho → R (Option D)
  | none, elt => elt1 elt
  | some t, elt => fun ρ => kTst (elt1 elt) none1 (evE c t ρ)
/-- what is walked (r: a range of these), then on with its items -/
@[simp] def evI (c : Ctx) (r : Bool) : List ME → (List D → Rho → R A) → Rho → R A
  | [], f => fun ρ => if r = true then kRng f (.ok [] ρ) else .bad
  | e :: es, f => fun ρ => if r = true then kRng f (kFrz (kVals1 (evVs c es)) (evE c e ρ)) else kFrz (fItems f) (evE c e ρ)
end

/-! ### statements -/
def kBind (t : MT) : R A → S
  | .ok x ρ => match take x ρ with
    | some (o, ρ') => match bindT t o ρ' with
      | some ρ2 => .nx ρ2
      | none => .bad
    | none => .bad
  | .exc e ρ => .exc e ρ
  | .bad => .bad
/-- a, b = x, y: new lists and values -/
def newO : A → Rho → Option O
  | .vl o, _ => some o
  | .pl i, ρ => match slot ρ i with
    | some (.val d) => some (.val d)
    | _ => none
def kPar (i j : Nat) : R (List A) → S
  | .ok [x, y] ρ => match newO x ρ, newO y ρ with
    | some o, some o' => .nx ((ρ.set i (some o)).set j (some o'))
    | _, _ => .bad
  | .ok _ _ => .bad
  | .exc e ρ => .exc e ρ
  | .bad => .bad
/-- x[k] = v -/
def subO (o : O) (k v : D) : Option O := match o, k with
  | .lst xs, .int j => (L2.ixN xs.length j).map fun m => .lst (xs.set m v)
  | .dct kvs, k => if keyFits kvs k = true ∧ kvs.length < sizeLine then some (.dct (dput kvs k v)) else none
  | _, _ => none
def subS (i : Nat) (k v : D) (ρ : Rho) : S := match slot ρ i with
  | some o => match subO o k v with
    | some o' => .nx (ρ.set i (some o'))
    | none => .bad
  | none => .bad
def kFrzS (f : D → Rho → S) : R A → S
  | .ok x ρ => match frz x ρ with
    | some (d, ρ') => f d ρ'
    | none => .bad
  | .exc e ρ => .exc e ρ
  | .bad => .bad
def kSub1 (i : Nat) (ek : Rho → R A) (v : D) (ρ : Rho) : S := match slot ρ i with
  | some _ => kFrzS (fun k ρ' => subS i k v ρ') (ek ρ)
  | none => .bad
def kSeq (f : Rho → S) : S → S
  | .nx ρ => f ρ
  | .rt o ρ => .rt o ρ
  | .bk ρ => .bk ρ
  | .ct ρ => .ct ρ
  | .exc e ρ => .exc e ρ
  | .bad => .bad
/-- x[k1], x[k2] = v1, v2 -/
def kSwp2 (i : Nat) (k1 k2 : Rho → R A) : R (List D) → S
  | .ok [v1, v2] ρ => kSeq (kSub1 i k2 v2) (kSub1 i k1 v1 ρ)
  | .ok _ _ => .bad
  | .exc e ρ => .exc e ρ
  | .bad => .bad
/-- x op= e, an int's or a text's -/
def augO (op : Operator) (d e : D) : Option D := match op, d, e with
  | .Add, .int i, .int j => some (.int (i + j))
  | .Sub, .int i, .int j => some (.int (i - j))
  | _, _, _ => none
def kAug (i : Nat) (op : Operator) (x : O) : R A → S
  | .ok y ρ => match look y ρ with
    | some e => match augO op x.data e with
      | some d => .nx (ρ.set i (some (.val d)))
      | none => .bad
    | none => .bad
  | .exc e ρ => .exc e ρ
  | .bad => .bad
def kAug0 (i : Nat) (op : Operator) (e : Rho → R A) (ρ : Rho) : S := match slot ρ i with
  | some (.val d) => kAug i op (.val d) (e ρ)
  | _ => .bad
def kExpr : R A → S
  | .ok _ ρ => .nx ρ
  | .exc e ρ => .exc e ρ
  | .bad => .bad
def kRetS (np : Nat) : R A → S
  | .ok x ρ => match give np x ρ with
    | some (o, ρ') => .rt o ρ'
    | none => .bad
  | .exc e ρ => .exc e ρ
  | .bad => .bad
/-- raise C(x) -/
def kRz (C : Str) : R A → S := kFrzS fun d ρ => .exc ⟨C, d⟩ ρ
/-- except C -/
def catches (h C : Str) : Bool := decide (h = C) || decide (h = ("SealError" : Str))
/-- what the first n names own is given to all -/
def frzN : Nat → Rho → Rho
  | 0, ρ => ρ
  | n + 1, ρ => match slot (frzN n ρ) n with
    | some o => (frzN n ρ).set n (some (.val o.data))
    | none => frzN n ρ
/-- except C as e: return (w, e.at) -/
def kTryS (hs : List (Str × Str)) : S → S
  | .exc e ρ => match hs.find? fun h => catches h.1 e.cls with
    | some h => .rt (.val (.tuple [.str h.2, e.arg])) ρ
    | none => .bad
  | s => s
def kTstS (y n : Rho → S) : R A → S
  | .ok x ρ => match look x ρ with
    | some (.bool b) => bif b then y ρ else n ρ
    | _ => .bad
  | .exc e ρ => .exc e ρ
  | .bad => .bad
def kLoop (f : Rho → S) : S → S
  | .nx ρ => f ρ
  | .ct ρ => f ρ
  | .bk ρ => .nx ρ
  | .rt o ρ => .rt o ρ
  | .exc e ρ => .exc e ρ
  | .bad => .bad
def whL (t : Rho → R A) (b : Rho → S) : Nat → Rho → S
  | 0 => fun _ => .bad
  | n + 1 => fun ρ => kTstS (fun ρ' => kLoop (whL t b n) (b ρ')) .nx (t ρ)
def foL (t : MT) (b : Rho → S) : List D → Rho → S
  | [] => .nx
  | d :: ds => fun ρ => match bindT t (.val d) ρ with
    | some ρ' => kLoop (foL t b ds) (b ρ')
    | none => .bad
def kFor (f : List D → Rho → S) : R A → S
  | .ok x ρ => match frz x ρ with
    | some (d, ρ') => match items d with
      | some ds => f ds ρ'
      | none => .bad
    | none => .bad
  | .exc e ρ => .exc e ρ
  | .bad => .bad
def kForR (f : List D → Rho → S) : R (List D) → S
  | .ok ds ρ => match rngD ds with
    | some is => f is ρ
    | none => .bad
  | .exc e ρ => .exc e ρ
  | .bad => .bad
def forI (c : Ctx) (r : Bool) (its : List ME) (f : List D → Rho → S) (ρ : Rho) : S :=
  if r = true then kForR f (evVs c its ρ) else match its with
    | e :: _ => kFor f (evE c e ρ)
    | [] => .bad
mutual
@[simp] def evS (c : Ctx) (np : Nat) : MS → Rho → S
  | .bad => fun _ => .bad
  | .pass => .nx
  | .asg t e => fun ρ => kBind t (evE c e ρ)
  | .par i j a b => fun ρ => kPar i j (evAs c [a, b] ρ)
  | .sub i k e => fun ρ => kFrzS (kSub1 i (evE c k)) (evE c e ρ)
  | .swp i k1 k2 e1 e2 => fun ρ => kSwp2 i (evE c k1) (evE c k2) (evVs c [e1, e2] ρ)
  | .aug i op e => kAug0 i op (evE c e)
  | .expr e => fun ρ => kExpr (evE c e ρ)
  | .ret e => fun ρ => kRetS np (evE c e ρ)
  | .retN => fun ρ => .rt (.val .none) ρ
  | .ifS t a b => fun ρ => kTstS (evSs c np a) (evSs c np b) (evE c t ρ)
  | .whl t b => whL (evE c t) (evSs c np b) c.W
  | .forS t r its b => forI c r its (foL t (evSs c np b))
  | .brk => .bk
  | .cnt => .ct
  | .rz C e => fun ρ => kRz C (evE c e ρ)
  | .tryS e hs => fun ρ => kTryS hs (kRetS np (evE c e (frzN np ρ)))
@[simp] def evSs (c : Ctx) (np : Nat) : List MS → Rho → S
  | [] => .nx
  | s :: ss => fun ρ => kSeq (evSs c np ss) (evS c np s ρ)
end

/-! ### defs -/
/-- np parameters of n names; rb: which parameters are bound anew -/
structure Fn where
  np : Nat
  n : Nat
  rb : List Bool
  dfl : List D
  body : List MS
def isVal : O → Bool
  | .val _ => true
  | _ => false
@[simp] def okArgs : List Bool → List O → Bool
  | b :: bs, o :: os => (!b || isVal o) && okArgs bs os
  | [], [] => true
  | _, _ => false
/-- what the parameters hold at the end -/
@[simp] def endArgs : List Bool → List O → Rho → Option (List O)
  | b :: bs, o :: os, r :: ρ => match b, r with
    | true, _ => (endArgs bs os ρ).map (o :: ·)
    | false, some o' => (endArgs bs os ρ).map (o' :: ·)
    | false, none => none
  | [], [], _ => some []
  | _, _, _ => none
def kEnd (f : Fn) (os : List O) : S → C
  | .nx ρ => match endArgs f.rb os ρ with
    | some os' => .ok (.val .none) os'
    | none => .bad
  | .rt o ρ => match endArgs f.rb os ρ with
    | some os' => .ok o os'
    | none => .bad
  | .exc e _ => .exc e []
  | _ => .bad
def enter (f : Fn) (os : List O) : Rho := os.map some ++ List.replicate (f.n - os.length) none
def runFn (c : Ctx) (f : Fn) (os : List O) : C :=
  if okArgs f.rb os = true then kEnd f os (evSs c f.np f.body (enter f os)) else .bad
def withDfl (f : Fn) (os : List O) : List O := os ++ (f.dfl.drop (os.length + f.dfl.length - f.np)).map .val
abbrev Tbl := Str → Option Fn
def runC (tb : Tbl) (W : Nat) : Nat → Str → List O → C
  | 0 => fun _ _ => .bad
  | n + 1 => fun f os => match tb f with
    | some fd => runFn ⟨fun g os' => match tb g with
      | some gd => runC tb W n g (withDfl gd os')
      | none => .bad, W⟩ fd os
    | none => .bad
end SW

set_option Elab.async false
set_option linter.all false
set_option maxRecDepth 100000
set_option maxHeartbeats 2000000
/-! how the values stand in the layer's heap -/
namespace SW
open PySem PySem.Spec L2
open PyProof.Rows hiding St

def keyD : Key → D
  | .inl i => .int i
  | .inr x => .str x
def keysD (k : List Key) : D := .tuple (k.map keyD)

/-! a value for good: P, the part of the heap that stays -/
mutual
def RD (P : Hp) : D → V → Prop
  | .none => fun v => v = .non
  | .bool b => fun v => v = .bl b
  | .int i => fun v => v = .int i
  | .str x => fun v => v = .str x
  | .list ds => fun v => ∃ a vs, v = .ref a ∧ Rd P a (.lst vs) ∧ RDs P ds vs
  | .tuple ds => fun v => ∃ a vs, v = .ref a ∧ P a = some (.tup vs) ∧ RDs P ds vs
  | .dict kvs => fun v => ∃ a, v = .ref a ∧ ((∃ ks, Rd P a (.dK ks) ∧ RK P kvs ks) ∨ ∃ ts, Rd P a (.dT ts) ∧ RT P kvs ts)
def RDs (P : Hp) : List D → List V → Prop
  | [] => fun vs => vs = []
  | d :: ds => fun vs => ∃ v r, vs = v :: r ∧ RD P d v ∧ RDs P ds r
def RK (P : Hp) : List (D × D) → List (Key × V) → Prop
  | [] => fun ks => ks = []
  | (k, d) :: r => fun ks => ∃ q v t, ks = (q, v) :: t ∧ k = keyD q ∧ RD P d v ∧ RK P r t
def RT (P : Hp) : List (D × D) → List (List Key × V) → Prop
  | [] => fun ks => ks = []
  | (k, d) :: r => fun ks => ∃ q v t, ks = (q, v) :: t ∧ k = keysD q ∧ RD P d v ∧ RT P r t
end

structure Keep (P P' : Hp) : Prop where
  rd : ∀ a u, Rd P a u → Rd P' a u
  tup : ∀ a vs, P a = some (.tup vs) → P' a = some (.tup vs)
  frz : ∀ a o u, P a = some (.frz o u) → P' a = some (.frz o u)
theorem Keep.refl {P : Hp} : Keep P P := ⟨fun _ _ h => h, fun _ _ h => h, fun _ _ _ h => h⟩
theorem Keep.trans {P P' P'' : Hp} (h : Keep P P') (h' : Keep P' P'') : Keep P P'' := ⟨fun a u q => h'.rd a u (h.rd a u q), fun a u q => h'.tup a u (h.tup a u q), fun a o u q => h'.frz a o u (h.frz a o u q)⟩
theorem Keep.of_le {P P' : Hp} (h : ∀ a o, P a = some o → P' a = some o) : Keep P P' :=
  ⟨fun a u q => q.elim (fun q => .inl (h _ _ q)) fun ⟨o, q⟩ => .inr ⟨o, h _ _ q⟩, fun a vs q => h _ _ q, fun a o u q => h _ _ q⟩

mutual
theorem RD.keep {P P' : Hp} (k : Keep P P') : ∀ (d : D) (v : V), RD P d v → RD P' d v
  | .none, _, h => by rw [RD] at h ⊢; exact h
  | .bool _, _, h => by rw [RD] at h ⊢; exact h
  | .int _, _, h => by rw [RD] at h ⊢; exact h
  | .str _, _, h => by rw [RD] at h ⊢; exact h
  | .list ds, _, h => by
    rw [RD] at h ⊢
    obtain ⟨a, vs, e, h1, h2⟩ := h
    exact ⟨a, vs, e, k.rd _ _ h1, RDs.keep k ds vs h2⟩
  | .tuple ds, _, h => by
    rw [RD] at h ⊢
    obtain ⟨a, vs, e, h1, h2⟩ := h
    exact ⟨a, vs, e, k.tup _ _ h1, RDs.keep k ds vs h2⟩
  | .dict kvs, _, h => by
    rw [RD] at h ⊢
    obtain ⟨a, e, ⟨ks, h1, h2⟩ | ⟨ts, h1, h2⟩⟩ := h
    · exact ⟨a, e, .inl ⟨ks, k.rd _ _ h1, RK.keep k kvs ks h2⟩⟩
    · exact ⟨a, e, .inr ⟨ts, k.rd _ _ h1, RT.keep k kvs ts h2⟩⟩
theorem RDs.keep {P P' : Hp} (k : Keep P P') : ∀ (ds : List D) (vs : List V), RDs P ds vs → RDs P' ds vs
  | [], _, h => by rw [RDs] at h ⊢; exact h
  | d :: ds, _, h => by
    rw [RDs] at h ⊢
    obtain ⟨v, r, e, h1, h2⟩ := h
    exact ⟨v, r, e, RD.keep k d v h1, RDs.keep k ds r h2⟩
theorem RK.keep {P P' : Hp} (k : Keep P P') : ∀ (kvs : List (D × D)) (ks : List (Key × V)), RK P kvs ks → RK P' kvs ks
  | [], _, h => by rw [RK] at h ⊢; exact h
  | (q, d) :: r, _, h => by
    rw [RK] at h ⊢
    obtain ⟨q, v, t, e, h0, h1, h2⟩ := h
    exact ⟨q, v, t, e, h0, RD.keep k d v h1, RK.keep k r t h2⟩
theorem RT.keep {P P' : Hp} (k : Keep P P') : ∀ (kvs : List (D × D)) (ks : List (List Key × V)), RT P kvs ks → RT P' kvs ks
  | [], _, h => by rw [RT] at h ⊢; exact h
  | (q, d) :: r, _, h => by
    rw [RT] at h ⊢
    obtain ⟨q, v, t, e, h0, h1, h2⟩ := h
    exact ⟨q, v, t, e, h0, RD.keep k d v h1, RT.keep k r t h2⟩
end
theorem RDs.length {P : Hp} : ∀ {ds : List D} {vs : List V}, RDs P ds vs → ds.length = vs.length
  | [], _, h => by rw [RDs] at h; subst h; rfl
  | d :: ds, _, h => by
    rw [RDs] at h
    obtain ⟨v, r, rfl, _, h2⟩ := h
    rw [List.length_cons, List.length_cons, RDs.length h2]
theorem RDs.nil {P : Hp} : RDs P [] [] := by rw [RDs]
theorem RDs.cons {P : Hp} {d : D} {ds : List D} {v : V} {vs : List V} (h : RD P d v) (t : RDs P ds vs) : RDs P (d :: ds) (v :: vs) := by
  rw [RDs]; exact ⟨v, vs, rfl, h, t⟩
theorem RDs.inv {P : Hp} {d : D} {ds : List D} {vs : List V} (h : RDs P (d :: ds) vs) : ∃ v r, vs = v :: r ∧ RD P d v ∧ RDs P ds r := by
  rw [RDs] at h; exact h
theorem RDs.nil_inv {P : Hp} {vs : List V} (h : RDs P [] vs) : vs = [] := by rw [RDs] at h; exact h
theorem RDs.append {P : Hp} : ∀ {ds : List D} {vs : List V} {es : List D} {ws : List V}, RDs P ds vs → RDs P es ws → RDs P (ds ++ es) (vs ++ ws)
  | [], _, _, _, h, h' => by rw [h.nil_inv]; exact h'
  | d :: ds, _, _, _, h, h' => by
    obtain ⟨v, r, rfl, h1, h2⟩ := h.inv
    exact .cons h1 (RDs.append h2 h')
theorem RDs.get {P : Hp} : ∀ {ds : List D} {vs : List V} {i : Nat} {d : D}, RDs P ds vs → ds[i]? = some d → ∃ v, vs[i]? = some v ∧ RD P d v
  | [], _, _, _, _, e => by simp at e
  | d :: ds, _, 0, _, h, e => by
    obtain ⟨v, r, rfl, h1, h2⟩ := h.inv
    simp at e; subst e
    exact ⟨v, rfl, h1⟩
  | d :: ds, _, i + 1, _, h, e => by
    obtain ⟨v, r, rfl, h1, h2⟩ := h.inv
    obtain ⟨u, e', h3⟩ := RDs.get (i := i) h2 (by simpa using e)
    exact ⟨u, by simpa using e', h3⟩
theorem RDs.set {P : Hp} {d : D} {v : V} (q : RD P d v) : ∀ {ds : List D} {vs : List V} (i : Nat), RDs P ds vs → RDs P (ds.set i d) (vs.set i v)
  | [], _, _, h => by rw [h.nil_inv]; exact .nil
  | e :: ds, _, 0, h => by
    obtain ⟨u, r, rfl, h1, h2⟩ := h.inv
    exact .cons q h2
  | e :: ds, _, i + 1, h => by
    obtain ⟨u, r, rfl, h1, h2⟩ := h.inv
    exact .cons h1 (RDs.set q i h2)
theorem RDs.take {P : Hp} : ∀ {ds : List D} {vs : List V} (n : Nat), RDs P ds vs → RDs P (ds.take n) (vs.take n)
  | _, _, 0, _ => .nil
  | [], _, _ + 1, h => by rw [h.nil_inv]; exact .nil
  | d :: ds, _, n + 1, h => by
    obtain ⟨u, r, rfl, h1, h2⟩ := h.inv
    exact .cons h1 (RDs.take n h2)
theorem RDs.drop {P : Hp} : ∀ {ds : List D} {vs : List V} (n : Nat), RDs P ds vs → RDs P (ds.drop n) (vs.drop n)
  | _, _, 0, h => h
  | [], _, _ + 1, h => by rw [h.nil_inv]; exact .nil
  | d :: ds, _, n + 1, h => by
    obtain ⟨u, r, rfl, h1, h2⟩ := h.inv
    exact RDs.drop n h2
theorem RDs.eraseIdx {P : Hp} : ∀ {ds : List D} {vs : List V} (n : Nat), RDs P ds vs → RDs P (ds.eraseIdx n) (vs.eraseIdx n)
  | [], _, _, h => by rw [h.nil_inv]; exact .nil
  | d :: ds, _, 0, h => by
    obtain ⟨u, r, rfl, h1, h2⟩ := h.inv
    exact h2
  | d :: ds, _, n + 1, h => by
    obtain ⟨u, r, rfl, h1, h2⟩ := h.inv
    exact .cons h1 (RDs.eraseIdx n h2)
theorem RDs.dropLast {P : Hp} {ds : List D} {vs : List V} (h : RDs P ds vs) : RDs P ds.dropLast vs.dropLast := by
  rw [List.dropLast_eq_take, List.dropLast_eq_take, h.length]
  exact h.take _

/-- read through the heap H (its own list may be a name's alone) -/
def Vw (P H : Hp) : D → V → Prop
  | .list ds => fun v => ∃ a vs, v = .ref a ∧ Rd H a (.lst vs) ∧ RDs P ds vs
  | .dict kvs => fun v => ∃ a, v = .ref a ∧ ((∃ ks, Rd H a (.dK ks) ∧ RK P kvs ks) ∨ ∃ ts, Rd H a (.dT ts) ∧ RT P kvs ts)
  | d => RD P d
/-- what a name holds; the list of the objects that are its alone -/
def RO (P H : Hp) : List Addr → O → V → Prop
  | B, .val d => fun v => B = [] ∧ RD P d v
  | B, .lst ds => fun v => ∃ a vs, v = .ref a ∧ B = [a] ∧ H a = some (.lst vs) ∧ P a = none ∧ RDs P ds vs
  | B, .dct kvs => fun v => ∃ a, v = .ref a ∧ B = [a] ∧ P a = none ∧ ((∃ ks, H a = some (.dK ks) ∧ RK P kvs ks) ∨ ∃ ts, H a = some (.dT ts) ∧ RT P kvs ts)
theorem RD.vw {P H : Hp} (s : ∀ a o, P a = some o → H a = some o) {d : D} {v : V} (h : RD P d v) : Vw P H d v := by
  have k := Keep.of_le s
  cases d with
  | list ds =>
    rw [RD] at h
    obtain ⟨a, vs, e, h1, h2⟩ := h
    exact ⟨a, vs, e, k.rd _ _ h1, h2⟩
  | dict kvs =>
    rw [RD] at h
    obtain ⟨a, e, ⟨ks, h1, h2⟩ | ⟨ts, h1, h2⟩⟩ := h
    · exact ⟨a, e, .inl ⟨ks, k.rd _ _ h1, h2⟩⟩
    · exact ⟨a, e, .inr ⟨ts, k.rd _ _ h1, h2⟩⟩
  | _ => exact h
theorem RO.vw {P H : Hp} (s : ∀ a o, P a = some o → H a = some o) {B : List Addr} {o : O} {v : V} (h : RO P H B o v) : Vw P H o.data v := by
  cases o with
  | val d => exact RD.vw s h.2
  | lst ds =>
    obtain ⟨a, vs, e, _, h1, _, h2⟩ := h
    exact ⟨a, vs, e, .inl h1, h2⟩
  | dct kvs =>
    obtain ⟨a, e, _, _, ⟨ks, h1, h2⟩ | ⟨ts, h1, h2⟩⟩ := h
    · exact ⟨a, e, .inl ⟨ks, .inl h1, h2⟩⟩
    · exact ⟨a, e, .inr ⟨ts, .inl h1, h2⟩⟩

/-- from one state on to another: A, the objects that may change -/
structure Ext (A : List Addr) (P H P' H' : Hp) : Prop where
  keep : Keep P P'
  kept : ∀ a o, H a = some o → a ∉ A → P a = none → H' a = some o
  from_ : ∀ a, P' a ≠ none → P a ≠ none ∨ a ∈ A ∨ H a = none
  there : ∀ a, H a ≠ none → H' a ≠ none
/-- what is new belongs to A or was not there -/
def New (A : List Addr) (H : Hp) (A' : List Addr) : Prop := ∀ a ∈ A', a ∈ A ∨ H a = none
theorem New.refl {A : List Addr} {H : Hp} : New A H A := fun _ h => .inl h
theorem New.trans {A A' A'' : List Addr} {H H' : Hp} (h : New A H A') (h' : New A' H' A'') (t : ∀ a, H a ≠ none → H' a ≠ none) : New A H A'' := fun a ha => by
  rcases h' a ha with q | q
  · exact h a q
  · refine .inr ?_
    cases e : H a with
    | none => rfl
    | some o => exact absurd q (t a (by rw [e]; simp))
theorem Ext.refl {A : List Addr} {P H : Hp} : Ext A P H P H := ⟨.refl, fun _ _ h _ _ => h, fun _ h => .inl h, fun _ h => h⟩
theorem Ext.trans {A A' : List Addr} {P H P' H' P'' H'' : Hp} (h : Ext A P H P' H') (h' : Ext A' P' H' P'' H'') (n : New A H A') : Ext A P H P'' H'' where
  keep := h.keep.trans h'.keep
  kept := fun a o e ha hp => by
    have e1 := h.kept a o e ha hp
    refine h'.kept a o e1 (fun q => ?_) ?_
    · rcases n a q with z | z
      · exact ha z
      · rw [e] at z; cases z
    · cases q : P' a with
      | none => rfl
      | some u =>
        rcases h.from_ a (by rw [q]; simp) with z | z | z
        · exact absurd hp z
        · exact absurd z ha
        · rw [e] at z; cases z
  from_ := fun a q => by
    rcases h'.from_ a q with z | z | z
    · exact h.from_ a z
    · rcases n a z with y | y
      · exact .inr (.inl y)
      · exact .inr (.inr y)
    · refine .inr (.inr ?_)
      cases e : H a with
      | none => rfl
      | some o => exact absurd z (h.there a (by rw [e]; simp))
  there := fun a q => h'.there a (h.there a q)
theorem Ext.mono {A A' : List Addr} {P H P' H' : Hp} (h : Ext A P H P' H') (s : ∀ a ∈ A, a ∈ A') : Ext A' P H P' H' :=
  ⟨h.keep, fun a o e ha hp => h.kept a o e (fun q => ha (s a q)) hp, fun a q => (h.from_ a q).imp id fun z => z.imp (s a) id, h.there⟩
theorem Ext.none {A : List Addr} {P H P' H' : Hp} (h : Ext A P H P' H') {a : Addr} (hp : P a = Option.none) (ha : a ∉ A) (hh : H a ≠ Option.none) : P' a = Option.none := by
  cases q : P' a with
  | none => rfl
  | some u =>
    rcases h.from_ a (by rw [q]; simp) with z | z | z
    · exact absurd hp z
    · exact absurd z ha
    · exact absurd z hh

theorem RO.there {P H : Hp} {B : List Addr} {o : O} {v : V} (h : RO P H B o v) : ∀ a ∈ B, P a = none ∧ H a ≠ none := by
  intro a ha
  cases o with
  | val d => rw [h.1] at ha; cases ha
  | lst ds =>
    obtain ⟨b, vs, e, rfl, h1, h2, _⟩ := h
    obtain rfl : a = b := by simpa using ha
    exact ⟨h2, by rw [h1]; simp⟩
  | dct kvs =>
    obtain ⟨b, e, rfl, h2, ⟨ks, h1, _⟩ | ⟨ts, h1, _⟩⟩ := h
    · obtain rfl : a = b := by simpa using ha
      exact ⟨h2, by rw [h1]; simp⟩
    · obtain rfl : a = b := by simpa using ha
      exact ⟨h2, by rw [h1]; simp⟩
/-- where nothing of it changes it is the same -/
theorem RO.ext {A : List Addr} {P H P' H' : Hp} (x : Ext A P H P' H') {B : List Addr} {o : O} {v : V} (h : RO P H B o v) (d : ∀ a ∈ B, a ∉ A) : RO P' H' B o v := by
  have th := h.there
  cases o with
  | val e => exact ⟨h.1, RD.keep x.keep e v h.2⟩
  | lst ds =>
    obtain ⟨b, vs, e, rfl, h1, h2, h3⟩ := h
    have hb : b ∉ A := d b (by simp)
    exact ⟨b, vs, e, rfl, x.kept b _ h1 hb h2, x.none h2 hb (th b (by simp)).2, RDs.keep x.keep ds vs h3⟩
  | dct kvs =>
    obtain ⟨b, e, rfl, h2, ⟨ks, h1, h3⟩ | ⟨ts, h1, h3⟩⟩ := h
    · have hb : b ∉ A := d b (by simp)
      exact ⟨b, e, rfl, x.none h2 hb (th b (by simp)).2, .inl ⟨ks, x.kept b _ h1 hb h2, RK.keep x.keep kvs ks h3⟩⟩
    · have hb : b ∉ A := d b (by simp)
      exact ⟨b, e, rfl, x.none h2 hb (th b (by simp)).2, .inr ⟨ts, x.kept b _ h1 hb h2, RT.keep x.keep kvs ts h3⟩⟩

/-! ### the names' values -/
def SlotOk (P H : Hp) (B : List Addr) : Option O → Option V → Prop
  | none => fun _ => B = []
  | some o => fun s => ∃ v, s = some v ∧ RO P H B o v
def Slots (P H : Hp) : Rho → St → List Addr → Prop
  | [], σ, A => σ = [] ∧ A = []
  | r :: ρ, σ, A => ∃ s t B C, σ = s :: t ∧ A = B ++ C ∧ SlotOk P H B r s ∧ Slots P H ρ t C
theorem SlotOk.there {P H : Hp} {B : List Addr} {r : Option O} {s : Option V} (h : SlotOk P H B r s) : ∀ a ∈ B, P a = none ∧ H a ≠ none := by
  cases r with
  | none => intro a ha; rw [show B = [] from h] at ha; cases ha
  | some o => obtain ⟨v, _, q⟩ := h; exact q.there
theorem SlotOk.ext {A : List Addr} {P H P' H' : Hp} (x : Ext A P H P' H') {B : List Addr} {r : Option O} {s : Option V} (h : SlotOk P H B r s) (d : ∀ a ∈ B, a ∉ A) : SlotOk P' H' B r s := by
  cases r with
  | none => exact h
  | some o => obtain ⟨v, e, q⟩ := h; exact ⟨v, e, q.ext x d⟩
theorem Slots.there {P H : Hp} : ∀ {ρ : Rho} {σ : St} {A : List Addr}, Slots P H ρ σ A → ∀ a ∈ A, P a = none ∧ H a ≠ none
  | [], _, _, h => by rw [h.2]; intro a ha; cases ha
  | r :: ρ, _, _, h => by
    obtain ⟨s, t, B, C, _, rfl, h1, h2⟩ := h
    intro a ha
    rcases List.mem_append.mp ha with ha | ha
    · exact h1.there a ha
    · exact Slots.there h2 a ha
theorem Slots.length {P H : Hp} : ∀ {ρ : Rho} {σ : St} {A : List Addr}, Slots P H ρ σ A → ρ.length = σ.length
  | [], _, _, h => by rw [h.1]; rfl
  | r :: ρ, _, _, h => by
    obtain ⟨s, t, B, C, rfl, rfl, h1, h2⟩ := h
    rw [List.length_cons, List.length_cons, Slots.length h2]
theorem Slots.ext {A0 : List Addr} {P H P' H' : Hp} (x : Ext A0 P H P' H') : ∀ {ρ : Rho} {σ : St} {A : List Addr}, Slots P H ρ σ A → (∀ a ∈ A, a ∉ A0) → Slots P' H' ρ σ A
  | [], _, _, h, _ => h
  | r :: ρ, _, _, h, d => by
    obtain ⟨s, t, B, C, e, rfl, h1, h2⟩ := h
    exact ⟨s, t, B, C, e, rfl, h1.ext x fun a ha => d a (List.mem_append_left _ ha), Slots.ext x h2 fun a ha => d a (List.mem_append_right _ ha)⟩
theorem slot_cons (r : Option O) (ρ : Rho) (i : Nat) : slot (r :: ρ) (i + 1) = slot ρ i := by simp [slot]
theorem slot_zero (r : Option O) (ρ : Rho) : slot (r :: ρ) 0 = r := by simp [slot]
/-- one name out of all: what it holds, and what may be put there instead -/
theorem Slots.at' {P H : Hp} : ∀ {ρ : Rho} {σ : St} {A : List Addr} {i : Nat} {o : O}, Slots P H ρ σ A → slot ρ i = some o →
    ∃ v A1 B A2, σ[i]? = some (some v) ∧ A = A1 ++ (B ++ A2) ∧ RO P H B o v ∧
      ∀ (X : List Addr) (P' H' : Hp), Ext X P H P' H' → (∀ a ∈ A1 ++ A2, a ∉ X) → ∀ (r' : Option O) (B' : List Addr), SlotOk P' H' B' r' (some v) → Slots P' H' (ρ.set i r') σ (A1 ++ (B' ++ A2))
  | [], _, _, i, o, h, e => by simp [slot] at e
  | r :: ρ, _, _, 0, o, h, e => by
    rw [slot_zero] at e
    subst e
    obtain ⟨s, t, B, C, rfl, rfl, h1, h2⟩ := h
    obtain ⟨v, rfl, h1⟩ := h1
    refine ⟨v, [], B, C, rfl, rfl, h1, fun X P' H' x d r' B' hr => ?_⟩
    exact ⟨some v, t, B', C, rfl, rfl, hr, Slots.ext x h2 fun a ha => d a (List.mem_append_right _ ha)⟩
  | r :: ρ, _, _, i + 1, o, h, e => by
    rw [slot_cons] at e
    obtain ⟨s, t, B, C, rfl, rfl, h1, h2⟩ := h
    obtain ⟨v, A1, B1, A2, e1, rfl, h3, h4⟩ := Slots.at' h2 e
    refine ⟨v, B ++ A1, B1, A2, by simpa using e1, by simp, h3, fun X P' H' x d r' B' hr => ?_⟩
    refine ⟨s, t, B, A1 ++ (B' ++ A2), rfl, by simp, h1.ext x fun a ha => d a (by simp [ha]), ?_⟩
    exact h4 X P' H' x (fun a ha => d a (by
      rcases List.mem_append.mp ha with ha | ha <;> simp [ha])) r' B' hr
/-- a name bound anew, its slot too -/
theorem Slots.put {P H P' H' : Hp} {X : List Addr} (x : Ext X P H P' H') : ∀ {ρ : Rho} {σ : St} {A : List Addr} (i : Nat) {o : O} {v : V} {B : List Addr}, Slots P H ρ σ A → (∀ a ∈ A, a ∉ X) → RO P' H' B o v → i < ρ.length →
    ∃ A1 A0 A2, A = A1 ++ (A0 ++ A2) ∧ Slots P' H' (ρ.set i (some o)) (σ.set i (some v)) (A1 ++ (B ++ A2))
  | [], _, _, i, _, _, _, h, _, _, hi => absurd hi (Nat.not_lt_zero _)
  | r :: ρ, _, _, 0, o, v, B, h, d, q, _ => by
    obtain ⟨s, t, B0, C, rfl, rfl, h1, h2⟩ := h
    exact ⟨[], B0, C, rfl, some v, t, B, C, rfl, rfl, ⟨v, rfl, q⟩, Slots.ext x h2 fun a ha => d a (List.mem_append_right _ ha)⟩
  | r :: ρ, _, _, i + 1, o, v, B, h, d, q, hi => by
    obtain ⟨s, t, B0, C, rfl, rfl, h1, h2⟩ := h
    obtain ⟨A1, A0, A2, rfl, h3⟩ := Slots.put x i h2 (fun a ha => d a (List.mem_append_right _ ha)) q (Nat.lt_of_succ_lt_succ hi)
    exact ⟨B0 ++ A1, A0, A2, by simp, s, t.set i (some v), B0, A1 ++ (B ++ A2), rfl, by simp, h1.ext x fun a ha => d a (by simp [ha]), h3⟩
/-- a name forgotten -/
theorem Slots.wipe {P H : Hp} : ∀ {ρ : Rho} {σ : St} {A : List Addr} (i : Nat) (s : Option V), Slots P H ρ σ A → 
    ∃ A1 A0 A2, A = A1 ++ (A0 ++ A2) ∧ Slots P H (ρ.set i none) (σ.set i s) (A1 ++ A2) ∧ ((slot ρ i = none ∨ ∃ d, slot ρ i = some (.val d)) → A0 = [])
  | [], _, A, i, s, h => ⟨A, [], [], by simp, by simpa [h.1] using h, fun _ => rfl⟩
  | r :: ρ, _, _, 0, s0, h => by
    obtain ⟨s, t, B0, C, rfl, rfl, h1, h2⟩ := h
    refine ⟨[], B0, C, rfl, ⟨s0, t, [], C, rfl, rfl, rfl, h2⟩, fun q => ?_⟩
    rw [slot_zero] at q
    rcases q with rfl | ⟨d, rfl⟩
    · exact h1
    · obtain ⟨v, _, q⟩ := h1; exact q.1
  | r :: ρ, _, _, i + 1, s0, h => by
    obtain ⟨s, t, B0, C, rfl, rfl, h1, h2⟩ := h
    obtain ⟨A1, A0, A2, rfl, h3, h4⟩ := Slots.wipe i s0 h2
    refine ⟨B0 ++ A1, A0, A2, by simp, ⟨s, t.set i s0, B0, A1 ++ A2, rfl, by simp, h1, h3⟩, fun q => h4 ?_⟩
    rw [slot_cons] at q
    exact q

/-- the state -/
structure Ok (P H : Hp) (σ : St) (ρ : Rho) (A : List Addr) : Prop where
  sub : ∀ a o, P a = some o → H a = some o
  sl : Slots P H ρ σ A
  nd : A.Nodup
theorem Ok.there {P H : Hp} {σ : St} {ρ : Rho} {A : List Addr} (h : Ok P H σ ρ A) : ∀ a ∈ A, P a = none ∧ H a ≠ none := h.sl.there

/-- an expression's value -/
def RA (P H : Hp) (σ : St) (ρ : Rho) (B : List Addr) : A → V → Prop
  | .pl i => fun v => B = [] ∧ σ[i]? = some (some v)
  | .vl o => fun v => RO P H B o v
theorem RA.ext {A0 : List Addr} {P H P' H' : Hp} {σ : St} {ρ ρ' : Rho} (x : Ext A0 P H P' H') {B : List Addr} {a : A} {v : V} (h : RA P H σ ρ B a v) (d : ∀ a ∈ B, a ∉ A0) : RA P' H' σ ρ' B a v := by
  cases a with
  | pl i => exact h
  | vl o => exact RO.ext x h d
theorem RA.there {P H : Hp} {σ : St} {ρ : Rho} {B : List Addr} {a : A} {v : V} (h : RA P H σ ρ B a v) : ∀ a ∈ B, P a = none ∧ H a ≠ none := by
  cases a with
  | pl i => rw [h.1]; intro a ha; cases ha
  | vl o => exact RO.there h
theorem Ok.vw {P H : Hp} {σ : St} {ρ : Rho} {A B : List Addr} (h : Ok P H σ ρ A) {a : SW.A} {v : V} (r : RA P H σ ρ B a v) {d : D} (l : look a ρ = some d) : Vw P H d v := by
  cases a with
  | pl i =>
    have l : (slot ρ i).map O.data = some d := l
    cases e : slot ρ i with
    | none => rw [e] at l; cases l
    | some o =>
      rw [e] at l
      cases l
      obtain ⟨w, _, _, _, e1, _, q, _⟩ := h.sl.at' e
      rw [r.2] at e1
      cases e1
      exact q.vw h.sub
  | vl o =>
    cases l
    exact RO.vw h.sub r
end SW

set_option Elab.async false
set_option linter.all false
set_option maxRecDepth 100000
set_option maxHeartbeats 2000000
/-! the layer's readings made of runs -/
namespace SW
open PySem PySem.Spec L2
open PyProof.Rows hiding St

theorem imp_PE {X : Cx} {e : Expr} {t t' : TE} (h : PE X e t) (q : ∀ σ H Q, t' σ H Q → t σ H Q) : PE X e t' := ⟨fun pins s σ H Q I w => h.run pins s σ H Q I (q _ _ _ w)⟩
theorem imp_PT {X : Cx} {e : Expr} {t t' : TT} (h : PT X e t) (q : ∀ σ H Q, t' σ H Q → t σ H Q) : PT X e t' := ⟨fun pins s σ H Q I w => h.run pins s σ H Q I (q _ _ _ w)⟩
theorem imp_PW {X : Cx} {e : Expr} {t t' : TT} (h : PW X e t) (q : ∀ σ H Q, t' σ H Q → t σ H Q) : PW X e t' := ⟨fun wh pins s σ H Q I w => h.run wh pins s σ H Q I (q _ _ _ w)⟩
theorem imp_PA {X : Cx} {es : List Expr} {t t' : TA} (h : PA X es t) (q : ∀ σ H Q, t' σ H Q → t σ H Q) : PA X es t' := ⟨fun pos pins s σ H Q I w => h.run pos pins s σ H Q I (q _ _ _ w)⟩
theorem imp_PS {X : Cx} {st : Stmt} {t t' : TS} (h : PS X st t) (q : ∀ D σ H, t' D σ H → t D σ H) : PS X st t' := ⟨fun pins s σ H D I w => h.run pins s σ H D I (q _ _ _ w)⟩
theorem imp_PSs {X : Cx} {st : List Stmt} {t t' : TS} (h : PSs X st t) (q : ∀ D σ H, t' D σ H → t D σ H) : PSs X st t' := ⟨fun pins s σ H D I w => h.run pins s σ H D I (q _ _ _ w)⟩
theorem no_PE {X : Cx} {e : Expr} {t : TE} (q : ∀ σ H Q, ¬ t σ H Q) : PE X e t := ⟨fun pins s σ H Q I w => (q _ _ _ w).elim⟩
theorem no_PT {X : Cx} {e : Expr} {t : TT} (q : ∀ σ H Q, ¬ t σ H Q) : PT X e t := ⟨fun pins s σ H Q I w => (q _ _ _ w).elim⟩
theorem no_PA {X : Cx} {e : List Expr} {t : TA} (q : ∀ σ H Q, ¬ t σ H Q) : PA X e t := ⟨fun _ pins s σ H Q I w => (q _ _ _ w).elim⟩
theorem no_PS {X : Cx} {e : Stmt} {t : TS} (q : ∀ D σ H, ¬ t D σ H) : PS X e t := ⟨fun pins s σ H D I w => (q _ _ _ w).elim⟩

/-- what is wanted of an exception -/
abbrev Wish := Exn → Hp → Hp → St → Prop
abbrev Rel (α β : Type) := Hp → Hp → St → Rho → List Addr → α → β → Prop
def Out {α β : Type} (Wx : Wish) (L : Rel α β) (σ : St) (P H : Hp) (A : List Addr) (r : R α) (Q : β → Hp → Prop) : Prop := match r with
  | .ok x ρ' => ∀ P' H' A' B v, Ext A P H P' H' → Ok P' H' σ ρ' A' → L P' H' σ ρ' B x v → (A' ++ B).Nodup → New A H (A' ++ B) → Q v H'
  | .exc e ρ' => ∀ P' H' A', Ext A P H P' H' → Ok P' H' σ ρ' A' → New A H A' → Wx e P' H' σ
  | .bad => False
def tG {α β : Type} (Wx : Wish) (L : Rel α β) (g : Rho → R α) : St → Hp → (β → Hp → Prop) → Prop := fun σ H Q => ∃ P ρ A, Ok P H σ ρ A ∧ Out Wx L σ P H A (g ρ) Q
/-- an expression by its run -/
abbrev tE (Wx : Wish) (g : Rho → R SW.A) : TE := tG Wx RA g
/-- several values for good -/
def RVs : Rel (List D) (List V) := fun P H σ ρ B ds vs => B = [] ∧ RDs P ds vs
def RV1 : Rel D V := fun P H σ ρ B d v => B = [] ∧ RD P d v
abbrev tVs (Wx : Wish) (g : Rho → R (List D)) : TA := tG Wx RVs g

theorem New.left {A : List Addr} {H : Hp} {A' B : List Addr} (h : New A H (A' ++ B)) : New A H A' := fun a ha => h a (List.mem_append_left _ ha)
theorem New.right {A : List Addr} {H : Hp} {A' B : List Addr} (h : New A H (A' ++ B)) : New A H B := fun a ha => h a (List.mem_append_right _ ha)
theorem apart {A B : List Addr} (h : (A ++ B).Nodup) : ∀ a ∈ B, a ∉ A := fun a hb ha => (List.nodup_append.mp h).2.2 a ha a hb rfl
theorem apart' {A B : List Addr} (h : (A ++ B).Nodup) : ∀ a ∈ A, a ∉ B := fun a ha hb => (List.nodup_append.mp h).2.2 a ha a hb rfl
section
variable {α β : Type} {Wx : Wish} {L : Rel α β} {σ : St} {P H P' H' : Hp} {A A' : List Addr} {ρ : Rho} {Q : β → Hp → Prop}
/-- on from a later state -/
theorem Out.shift {r : R α} (h : Out Wx L σ P H A r Q) (x : Ext A P H P' H') (n : New A H A') : Out Wx L σ P' H' A' r Q := by
  cases r with
  | ok y ρ' => exact fun P2 H2 A2 B v x2 o2 r2 d2 n2 => h P2 H2 A2 B v (x.trans x2 n) o2 r2 d2 (n.trans n2 x.there)
  | exc e ρ' => exact fun P2 H2 A2 x2 o2 n2 => h P2 H2 A2 (x.trans x2 n) o2 (n.trans n2 x.there)
  | bad => exact h
/-- here and now -/
theorem Out.here {y : α} {v : β} (h : Out Wx L σ P H A (.ok y ρ) Q) (o : Ok P H σ ρ A) (l : L P H σ ρ [] y v) : Q v H :=
  h P H A [] v .refl o l (by rw [List.append_nil]; exact o.nd) (by rw [List.append_nil]; exact .refl)
end

/-! ### new objects -/
section
variable {P H : Hp} {σ : St} {ρ : Rho} {A : List Addr} {p : Addr}
theorem ext_new (o : HO) (hp : H p = none) (s : ∀ a o, P a = some o → H a = some o) : Ext A P H P (upd H p o) :=
  ⟨.refl, fun a u e _ _ => by rw [upd_ne (ne_of_none e hp)]; exact e, fun _ h => .inl h, fun a h => by
    unfold upd; split
    · simp
    · exact h⟩
theorem ext_newP (o : HO) (hp : H p = none) (s : ∀ a o, P a = some o → H a = some o) : Ext A P H (upd P p o) (upd H p o) := by
  have np : P p = none := by
    cases e : P p with
    | none => rfl
    | some u => rw [s p u e] at hp; cases hp
  refine ⟨.of_le fun a u e => ?_, fun a u e _ _ => by rw [upd_ne (ne_of_none e hp)]; exact e, fun a h => ?_, fun a h => ?_⟩
  · rw [upd_ne (ne_of_none e np)]; exact e
  · by_cases e : a = p
    · subst e; exact .inr (.inr hp)
    · rw [upd_ne e] at h; exact .inl h
  · unfold upd; split
    · simp
    · exact h
theorem Ok.ext {A0 : List Addr} {P' H' : Hp} (h : Ok P H σ ρ A) (x : Ext A0 P H P' H') (s : ∀ a o, P' a = some o → H' a = some o) (d : ∀ a ∈ A, a ∉ A0) : Ok P' H' σ ρ A := ⟨s, h.sl.ext x d, h.nd⟩
theorem Ok.new (h : Ok P H σ ρ A) (o : HO) (hp : H p = none) : Ok P (upd H p o) σ ρ A :=
  h.ext (A0 := []) (ext_new o hp h.sub) (fun a u e => by rw [upd_ne (ne_of_none (h.sub a u e) hp)]; exact h.sub a u e) fun _ _ => List.not_mem_nil
theorem Ok.newP (h : Ok P H σ ρ A) (o : HO) (hp : H p = none) : Ok (upd P p o) (upd H p o) σ ρ A :=
  h.ext (A0 := []) (ext_newP o hp h.sub) (fun a u e => by
    by_cases q : a = p
    · subst q; rw [upd_same] at e ⊢; exact e
    · rw [upd_ne q] at e ⊢; exact h.sub a u e) fun _ _ => List.not_mem_nil
theorem Ok.fresh (h : Ok P H σ ρ A) (hp : H p = none) : p ∉ A := fun q => (h.there p q).2 hp
theorem Ok.noneP (h : Ok P H σ ρ A) (hp : H p = none) : P p = none := by
  cases e : P p with
  | none => rfl
  | some u => rw [h.sub p u e] at hp; cases hp
/-- a new list of its own -/
theorem Out.lst {Wx : Wish} {ds : List D} {vs : List V} {Q : VK} (h : Out Wx RA σ P H A (.ok (.vl (.lst ds)) ρ) Q) (o : Ok P H σ ρ A) (hp : H p = none) (r : RDs P ds vs) : Q (.ref p) (upd H p (.lst vs)) := by
  refine h P (upd H p (.lst vs)) A [p] (.ref p) (ext_new _ hp o.sub) (o.new _ hp) ⟨p, vs, rfl, rfl, upd_same, o.noneP hp, r⟩ ?_ fun a ha => ?_
  · refine List.nodup_append.mpr ⟨o.nd, by simp, fun a ha b hb e => ?_⟩
    subst e
    obtain rfl : a = p := by simpa using hb
    exact o.fresh hp ha
  · rcases List.mem_append.mp ha with q | q
    · exact .inl q
    · obtain rfl : a = p := by simpa using q
      exact .inr hp
/-- a new tuple -/
theorem Out.tup {Wx : Wish} {ds : List D} {vs : List V} {Q : VK} (h : Out Wx RA σ P H A (.ok (.vl (.val (.tuple ds))) ρ) Q) (o : Ok P H σ ρ A) (hp : H p = none) (r : RDs P ds vs) : Q (.ref p) (upd H p (.tup vs)) := by
  have x := ext_newP (A := A) (.tup vs) hp o.sub
  refine h (upd P p (.tup vs)) (upd H p (.tup vs)) A [] (.ref p) x (o.newP _ hp) ⟨rfl, ?_⟩ (by rw [List.append_nil]; exact o.nd) (by rw [List.append_nil]; exact .refl)
  rw [RD]
  exact ⟨p, vs, rfl, upd_same, RDs.keep x.keep ds vs r⟩
/-- .. dicts of their own -/
theorem Out.dK {Wx : Wish} {kvs : List (D × D)} {ks : List (Key × V)} {Q : VK} (h : Out Wx RA σ P H A (.ok (.vl (.dct kvs)) ρ) Q) (o : Ok P H σ ρ A) (hp : H p = none) (r : RK P kvs ks) : Q (.ref p) (upd H p (.dK ks)) := by
  refine h P (upd H p (.dK ks)) A [p] (.ref p) (ext_new _ hp o.sub) (o.new _ hp) ⟨p, rfl, rfl, o.noneP hp, .inl ⟨ks, upd_same, r⟩⟩ ?_ fun a ha => ?_
  · refine List.nodup_append.mpr ⟨o.nd, by simp, fun a ha b hb e => ?_⟩
    subst e
    obtain rfl : a = p := by simpa using hb
    exact o.fresh hp ha
  · rcases List.mem_append.mp ha with q | q
    · exact .inl q
    · obtain rfl : a = p := by simpa using q
      exact .inr hp
theorem Out.dT {Wx : Wish} {kvs : List (D × D)} {ks : List (List Key × V)} {Q : VK} (h : Out Wx RA σ P H A (.ok (.vl (.dct kvs)) ρ) Q) (o : Ok P H σ ρ A) (hp : H p = none) (r : RT P kvs ks) : Q (.ref p) (upd H p (.dT ks)) := by
  refine h P (upd H p (.dT ks)) A [p] (.ref p) (ext_new _ hp o.sub) (o.new _ hp) ⟨p, rfl, rfl, o.noneP hp, .inr ⟨ks, upd_same, r⟩⟩ ?_ fun a ha => ?_
  · refine List.nodup_append.mpr ⟨o.nd, by simp, fun a ha b hb e => ?_⟩
    subst e
    obtain rfl : a = p := by simpa using hb
    exact o.fresh hp ha
  · rcases List.mem_append.mp ha with q | q
    · exact .inl q
    · obtain rfl : a = p := by simpa using q
      exact .inr hp
end

/-! ### a list, a dict that is a name's alone is given to all -/
theorem freeze {P H : Hp} {A B : List Addr} {o : O} {v : V} (s : ∀ a u, P a = some u → H a = some u) (r : RO P H B o v) (hb : ∀ a ∈ B, a ∈ A) :
    ∃ P', Ext A P H P' H ∧ (∀ a u, P' a = some u → H a = some u) ∧ RD P' o.data v ∧ Keep P P' ∧ ∀ a, P' a ≠ none → P a ≠ none ∨ a ∈ B := by
  have base : ∀ (p : Addr) (u : HO), H p = some u → P p = none → p ∈ B → (∃ Y : (P' : Hp) → Prop, True) → Ext A P H (upd P p u) H ∧ (∀ a u', upd P p u a = some u' → H a = some u') ∧ Keep P (upd P p u) ∧ ∀ a, upd P p u a ≠ none → P a ≠ none ∨ a ∈ B := by
    intro p u hu hp hB _
    have k : Keep P (upd P p u) := .of_le fun a w e => by rw [upd_ne (ne_of_none e hp)]; exact e
    have f : ∀ a, upd P p u a ≠ none → P a ≠ none ∨ a ∈ B := fun a q => by
      by_cases e : a = p
      · subst e; exact .inr hB
      · rw [upd_ne e] at q; exact .inl q
    refine ⟨⟨k, fun _ _ e _ _ => e, fun a q => (f a q).imp id fun z => .inl (hb a z), fun _ q => q⟩, fun a w e => ?_, k, f⟩
    by_cases q : a = p
    · subst q; rw [upd_same] at e; cases e; exact hu
    · rw [upd_ne q] at e; exact s a w e
  cases o with
  | val d => exact ⟨P, .refl, s, r.2, .refl, fun _ h => .inl h⟩
  | lst ds =>
    obtain ⟨p, vs, e, rfl, h1, h2, h3⟩ := r
    obtain ⟨x, s', k, f⟩ := base p (.lst vs) h1 h2 (by simp) ⟨fun _ => True, trivial⟩
    refine ⟨_, x, s', ?_, k, f⟩
    show RD _ (.list ds) v
    rw [RD]
    exact ⟨p, vs, e, .inl upd_same, RDs.keep k ds vs h3⟩
  | dct kvs =>
    obtain ⟨p, e, rfl, h2, ⟨ks, h1, h3⟩ | ⟨ts, h1, h3⟩⟩ := r
    · obtain ⟨x, s', k, f⟩ := base p (.dK ks) h1 h2 (by simp) ⟨fun _ => True, trivial⟩
      refine ⟨_, x, s', ?_, k, f⟩
      show RD _ (.dict kvs) v
      rw [RD]
      exact ⟨p, e, .inl ⟨ks, .inl upd_same, RK.keep k kvs ks h3⟩⟩
    · obtain ⟨x, s', k, f⟩ := base p (.dT ts) h1 h2 (by simp) ⟨fun _ => True, trivial⟩
      refine ⟨_, x, s', ?_, k, f⟩
      show RD _ (.dict kvs) v
      rw [RD]
      exact ⟨p, e, .inr ⟨ts, .inl upd_same, RT.keep k kvs ts h3⟩⟩
theorem nodup_mid {A1 B A2 : List Addr} (h : (A1 ++ (B ++ A2)).Nodup) : (A1 ++ A2).Nodup ∧ (∀ a ∈ A1 ++ A2, a ∉ B) ∧ B.Nodup := by
  rw [List.nodup_append] at h
  obtain ⟨h1, h2, h3⟩ := h
  rw [List.nodup_append] at h2
  obtain ⟨h4, h5, h6⟩ := h2
  refine ⟨List.nodup_append.mpr ⟨h1, h5, fun a ha b hb => h3 a ha b (List.mem_append_right _ hb)⟩, fun a ha hb => ?_, h4⟩
  rcases List.mem_append.mp ha with q | q
  · exact h3 a q a (List.mem_append_left _ hb) rfl
  · exact h6 a hb a q rfl
theorem mem_mid {A1 B A2 : List Addr} {a : Addr} (h : a ∈ A1 ++ A2) : a ∈ A1 ++ (B ++ A2) := by
  rcases List.mem_append.mp h with q | q <;> simp [q]

section
variable {P H : Hp} {σ : St} {ρ ρ' : Rho} {A B : List Addr} {x : SW.A} {v : V} {d : D}
/-- a value for good out of an expression's -/
theorem frz_ok (o : Ok P H σ ρ A) (r : RA P H σ ρ B x v) (nd : (A ++ B).Nodup) (e : frz x ρ = some (d, ρ')) :
    ∃ P' A', Ext (A ++ B) P H P' H ∧ Ok P' H σ ρ' A' ∧ RD P' d v ∧ (∀ a ∈ A', a ∈ A) ∧ Keep P P' := by
  cases x with
  | vl y =>
    have e' : some (y.data, ρ) = some (d, ρ') := e
    cases e'
    obtain ⟨P', x, s, q, k, f⟩ := freeze (A := A ++ B) o.sub r fun a ha => List.mem_append_right _ ha
    refine ⟨P', A, x, ⟨s, ?_, o.nd⟩, q, fun _ h => h, k⟩
    have xb : Ext B P H P' H := ⟨k, fun _ _ e _ _ => e, fun a q => (f a q).imp id .inl, fun _ q => q⟩
    exact o.sl.ext xb (apart' nd)
  | pl i =>
    obtain ⟨rfl, e1⟩ := r
    rw [List.append_nil] at nd ⊢
    cases es : slot ρ i with
    | none => simp only [frz, es] at e; cases e
    | some y =>
      obtain ⟨w, A1, C, A2, e2, rfl, q, up⟩ := o.sl.at' es
      rw [e1] at e2
      cases e2
      cases y with
      | val z =>
        simp only [frz, es] at e
        cases e
        exact ⟨P, _, .refl, o, q.2, fun _ h => h, .refl⟩
      | _ =>
        simp only [frz, es] at e
        cases e
        obtain ⟨P', x, s, z, k, f⟩ := freeze (A := A1 ++ (C ++ A2)) o.sub q fun a ha => by simp [ha]
        have xb : Ext C P H P' H := ⟨k, fun _ _ e _ _ => e, fun a q => (f a q).imp id .inl, fun _ q => q⟩
        obtain ⟨n1, n2, _⟩ := nodup_mid nd
        refine ⟨P', A1 ++ A2, x, ⟨s, ?_, n1⟩, z, fun a h => mem_mid h, k⟩
        have := up C P' H xb n2 (some (.val _)) [] ⟨v, rfl, rfl, z⟩
        simpa using this
end
end SW

set_option Elab.async false
set_option linter.all false
set_option maxRecDepth 100000
set_option maxHeartbeats 2000000
/-! the operations, by values -/
namespace SW
open PySem PySem.Spec L2
open PyProof.Rows hiding St

/-! ### data as the layer's -/
mutual
theorem RD.dp {K : PySem.W.Frag} {P H : Hp} (s : ∀ a o, P a = some o → H a = some o) : ∀ (d : D) (v : V), RD P d v → d.canLay0 = true → Dp K H v d
  | .none, _, h, _ => by rw [RD] at h; subst h; exact .non
  | .bool b, _, h, _ => by rw [RD] at h; subst h; exact .bl b
  | .int i, _, h, _ => by rw [RD] at h; subst h; exact .int i
  | .str x, _, h, _ => by rw [RD] at h; subst h; exact .str x
  | .list ds, _, h, c => by
    rw [RD] at h
    obtain ⟨a, vs, rfl, h1, h2⟩ := h
    exact .lst (.inl ((Keep.of_le s).rd _ _ h1)) (RDs.dp s ds vs h2 (by simpa [PyData.canLay0] using c))
  | .tuple ds, _, h, c => by
    rw [RD] at h
    obtain ⟨a, vs, rfl, h1, h2⟩ := h
    exact .tup (.inl (.inl (s _ _ h1))) (RDs.dp s ds vs h2 (by simpa [PyData.canLay0] using c))
  | .dict _, _, _, c => by simp [PyData.canLay0] at c
theorem RDs.dp {K : PySem.W.Frag} {P H : Hp} (s : ∀ a o, P a = some o → H a = some o) : ∀ (ds : List D) (vs : List V), RDs P ds vs → PyData.canLayAll0 ds = true → DpAll K H vs ds
  | [], _, h, _ => by rw [RDs] at h; subst h; exact .nil
  | d :: ds, _, h, c => by
    rw [RDs] at h
    obtain ⟨v, r, rfl, h1, h2⟩ := h
    rw [PyData.canLayAll0, Bool.and_eq_true] at c
    exact .cons (RD.dp s d v h1 c.1) (RDs.dp s ds r h2 c.2)
end
theorem Vw.dp {K : PySem.W.Frag} {P H : Hp} (s : ∀ a o, P a = some o → H a = some o) {d : D} {v : V} (h : Vw P H d v) (c : d.canLay0 = true) : Dp K H v d := by
  cases d with
  | list ds =>
    obtain ⟨a, vs, rfl, h1, h2⟩ := h
    exact .lst (.inl h1) (RDs.dp s ds vs h2 (by simpa [PyData.canLay0] using c))
  | dict _ => simp [PyData.canLay0] at c
  | _ => exact RD.dp s _ v h c
theorem vw_int {P H : Hp} {i : Int} {v : V} (h : Vw P H (.int i) v) : v = .int i := by
  have h : RD P (.int i) v := h
  rw [RD] at h; exact h
theorem vw_str {P H : Hp} {x : Str} {v : V} (h : Vw P H (.str x) v) : v = .str x := by
  have h : RD P (.str x) v := h
  rw [RD] at h; exact h
theorem vw_bool {P H : Hp} {x : Bool} {v : V} (h : Vw P H (.bool x) v) : v = .bl x := by
  have h : RD P (.bool x) v := h
  rw [RD] at h; exact h
theorem vw_none {P H : Hp} {v : V} (h : Vw P H .none v) : v = .non := by
  have h : RD P .none v := h
  rw [RD] at h; exact h
theorem vw_tup {P H : Hp} (s : ∀ a o, P a = some o → H a = some o) {ds : List D} {v : V} (h : Vw P H (.tuple ds) v) : ∃ a vs, v = .ref a ∧ P a = some (.tup vs) ∧ H a = some (.tup vs) ∧ RDs P ds vs := by
  have h : RD P (.tuple ds) v := h
  rw [RD] at h
  obtain ⟨a, vs, e, h1, h2⟩ := h
  exact ⟨a, vs, e, h1, s _ _ h1, h2⟩
theorem rd_none {P : Hp} : RD P .none .non := by rw [RD]
theorem rd_int {P : Hp} {i : Int} : RD P (.int i) (.int i) := by rw [RD]
theorem rd_bool {P : Hp} {i : Bool} : RD P (.bool i) (.bl i) := by rw [RD]
theorem rd_str {P : Hp} {i : Str} : RD P (.str i) (.str i) := by rw [RD]

/-- an operation of two values, by its run -/
def rD2 (Wx : Wish) (f : D → D → Rho → R SW.A) : R2 := fun x y H Q => ∃ P σ ρ A d e, Ok P H σ ρ A ∧ Vw P H d x ∧ Vw P H e y ∧ Out Wx RA σ P H A (f d e ρ) Q
/-- of one -/
def rD1 (Wx : Wish) (f : D → Rho → R SW.A) : V → Hp → VK → Prop := fun x H Q => ∃ P σ ρ A d, Ok P H σ ρ A ∧ Vw P H d x ∧ Out Wx RA σ P H A (f d ρ) Q

section
variable {X : Cx} {Wx : Wish} {P H : Hp} {σ : St} {ρ : Rho} {A : List Addr} {Q : VK}
theorem Out.val {d : D} {v : V} (h : Out Wx RA σ P H A (.ok (.vl (.val d)) ρ) Q) (o : Ok P H σ ρ A) (r : RD P d v) : Q v H := h.here o ⟨rfl, r⟩
theorem Out.int {i : Int} (h : Out Wx RA σ P H A (.ok (.vl (.val (.int i))) ρ) Q) (o : Ok P H σ ρ A) : Q (.int i) H := h.val o rd_int
theorem Out.bool {i : Bool} (h : Out Wx RA σ P H A (.ok (.vl (.val (.bool i))) ρ) Q) (o : Ok P H σ ρ A) : Q (.bl i) H := h.val o rd_bool
theorem Out.str {i : Str} (h : Out Wx RA σ P H A (.ok (.vl (.val (.str i))) ρ) Q) (o : Ok P H σ ρ A) : Q (.str i) H := h.val o rd_str

theorem mul_ok {i j : Int} (h : mulOk i j = true) : CMul i j := by
  unfold mulOk at h
  rw [Bool.or_eq_true] at h
  exact h.imp of_decide_eq_true of_decide_eq_true
/-- list + list, of any that may be read -/
def rCat2 : R2 := fun x y H Q => ∃ l b xs zs, x = .ref l ∧ y = .ref b ∧ Rd H l (.lst xs) ∧ Rd H b (.lst zs) ∧ xs.length + zs.length ≤ sizeLine ∧ ∀ p, H p = none → Q (.ref p) (upd H p (.lst (xs ++ zs)))
theorem op_cat2 : OpR X (binaryOp .Add) rCat2 := by
  intro pins s σ H x y v u Q I rx ry h
  obtain ⟨l, b, xs, zs, rfl, rfl, hH, hB, hz, q⟩ := h
  cases rx
  cases ry
  obtain ⟨z, its, n, r, e⟩ := hH.ok I.hok
  obtain ⟨z2, its2, n2, r2, e2⟩ := hB.ok I.hok
  have hl := r.length
  have hl2 := r2.length
  refine PySem.P.add_list e e2 ?_ (by rw [List.size_toArray, List.size_toArray]; omega)
  have ea : its.toArray ++ its2.toArray = (its ++ its2).toArray := by simp
  rw [ea]
  exact ⟨.ref _, _, I.lnew (t' := s.toks) (r.append r2) (by rw [List.length_append]; omega), rfl, q _ I.fresh⟩
def rMulS : R2 := fun x y H Q => ∃ z n, x = .str z ∧ y = .int n ∧ 0 ≤ n ∧ n ≤ 16777216 ∧ z.length * n.toNat ≤ sizeLine ∧ Q (.str (Txt.mul z n)) H
theorem op_mulS : OpR X (binaryOp .Mult) rMulS := by
  intro pins s σ H x y v u Q I rx ry h
  obtain ⟨z, n, rfl, rfl, h0, h1, hz, q⟩ := h
  obtain ⟨t, rfl⟩ := rx
  obtain ⟨t', rfl⟩ := ry
  refine PySem.SB.mul ⟨?_, fun hn _ => ?_, fun _ _ => ?_⟩ fun t' k => ⟨.str _, H, I.tok k, ⟨t', rfl⟩, q⟩
  · rw [decide_eq_false (by omega), decide_eq_false (by omega)]; rfl
  · have hn' : (1 : Int) ≤ n := by omega
    have e : ((z.length : Nat) : Int) * n ≤ 16777216 := by
      have : ((z.length * n.toNat : Nat) : Int) ≤ 16777216 := by rw [sizeLine_eq] at hz; omega
      rw [Int.natCast_mul, Int.toNat_of_nonneg h0] at this
      exact this
    have g : ((z.length : Nat) : Int) ≤ (2 ^ 63 - 1) / n := (Int.le_ediv_iff_mul_le (by omega)).mpr (by omega)
    omega
  · unfold Builtin.Str.tooLong
    exact decide_eq_false (by omega)
end
section
variable {X : Cx} {Wx : Wish}
theorem op_binD (op : Operator) : OpR X (binaryOp op) (rD2 Wx (fBin op)) := by
  intro pins s σ0 H x y v u Q I rx ry h
  obtain ⟨P, σ, ρ, A, d, e, ok, vd, ve, out⟩ := h
  have bad : binD op d e = none → False := fun z => by
    unfold fBin at out
    rw [z] at out
    exact out
  have two : (∃ i j, d = .int i ∧ e = .int j) ∨ (∃ i j, d = .str i ∧ e = .str j) ∨ (∃ i j, d = .list i ∧ e = .list j) ∨ (∃ i j, d = .tuple i ∧ e = .tuple j) ∨ (∃ i j, d = .str i ∧ e = .int j) := by
    cases d <;> cases e <;> first
      | exact .inl ⟨_, _, rfl, rfl⟩
      | exact .inr (.inl ⟨_, _, rfl, rfl⟩)
      | exact .inr (.inr (.inl ⟨_, _, rfl, rfl⟩))
      | exact .inr (.inr (.inr (.inl ⟨_, _, rfl, rfl⟩)))
      | exact .inr (.inr (.inr (.inr ⟨_, _, rfl, rfl⟩)))
      | exact (bad (by cases op <;> rfl)).elim
  unfold fBin at out
  rcases two with ⟨i, j, rfl, rfl⟩ | ⟨i, j, rfl, rfl⟩ | ⟨i, j, rfl, rfl⟩ | ⟨i, j, rfl, rfl⟩ | ⟨i, j, rfl, rfl⟩
  · have e1 := vw_int vd
    have e2 := vw_int ve
    subst e1 e2
    cases op with
    | Add => exact op_add pins s σ0 H _ _ v u Q I rx ry ⟨i, j, rfl, rfl, out.int ok⟩
    | Sub => exact op_sub pins s σ0 H _ _ v u Q I rx ry ⟨i, j, rfl, rfl, out.int ok⟩
    | Mult =>
      simp only [binD] at out
      split at out
      · rename_i c
        exact op_mul pins s σ0 H _ _ v u Q I rx ry ⟨i, j, rfl, rfl, mul_ok c, out.int ok⟩
      · exact out.elim
    | FloorDiv =>
      simp only [binD] at out
      split at out
      · rename_i c
        exact op_fdiv pins s σ0 H _ _ v u Q I rx ry ⟨i, j, rfl, rfl, c, out.int ok⟩
      · exact out.elim
    | Mod =>
      simp only [binD] at out
      split at out
      · rename_i c
        exact op_mod pins s σ0 H _ _ v u Q I rx ry ⟨i, j, rfl, rfl, c, out.int ok⟩
      · exact out.elim
    | Pow =>
      simp only [binD] at out
      split at out
      · rename_i c
        exact op_pow pins s σ0 H _ _ v u Q I rx ry ⟨i, j, rfl, rfl, c, out.int ok⟩
      · exact out.elim
    | _ => exact out.elim
  · have e1 := vw_str vd
    have e2 := vw_str ve
    subst e1 e2
    cases op with
    | Add =>
      simp only [binD] at out
      split at out
      · rename_i c
        exact op_add_str pins s σ0 H _ _ v u Q I rx ry ⟨i, j, rfl, rfl, of_decide_eq_true c, out.str ok⟩
      · exact out.elim
    | _ => exact out.elim
  · obtain ⟨a, vs, rfl, h1, h2⟩ := vd
    obtain ⟨b, ws, rfl, h3, h4⟩ := ve
    cases op with
    | Add =>
      simp only [binD] at out
      split at out
      · rename_i c
        have c' := of_decide_eq_true c
        exact op_cat2 pins s σ0 H _ _ v u Q I rx ry ⟨a, b, vs, ws, rfl, rfl, h1, h3, by rw [← h2.length, ← h4.length]; exact c', fun p hp => out.lst ok hp (h2.append h4)⟩
      · exact out.elim
    | _ => exact out.elim
  · obtain ⟨a, vs, rfl, h0, h1, h2⟩ := vw_tup ok.sub vd
    obtain ⟨b, ws, rfl, g0, h3, h4⟩ := vw_tup ok.sub ve
    cases op with
    | Add =>
      simp only [binD] at out
      split at out
      · rename_i c
        have c' := of_decide_eq_true c
        refine op_catA pins s σ0 H _ _ v u Q I rx ry ⟨a, b, vs, ws, rfl, rfl, .of h1, .of h3, by rw [← h2.length, ← h4.length]; exact c', fun z => ?_, fun _ z => ?_, fun _ _ p hp => out.tup ok hp (h2.append h4)⟩
        · have z' : i = [] := by
            have := h2.length
            rw [z] at this
            exact List.length_eq_zero_iff.mp this
          subst z'
          rw [List.nil_append] at out
          exact out.val ok (by rw [RD]; exact ⟨b, ws, rfl, g0, h4⟩)
        · have z' : j = [] := by
            have := h4.length
            rw [z] at this
            exact List.length_eq_zero_iff.mp this
          subst z'
          rw [List.append_nil] at out
          exact out.val ok (by rw [RD]; exact ⟨a, vs, rfl, h0, h2⟩)
      · exact out.elim
    | _ => exact out.elim
  · have e1 := vw_str vd
    have e2 := vw_int ve
    subst e1 e2
    cases op with
    | Mult =>
      simp only [binD] at out
      split at out
      · rename_i c
        exact op_mulS pins s σ0 H _ _ v u Q I rx ry ⟨i, j, rfl, rfl, c.1, c.2.1, c.2.2, out.str ok⟩
      · exact out.elim
    | _ => exact out.elim
end
end SW

namespace SW
open PySem PySem.Spec L2
open PyProof.Rows hiding St
/-! ### dicts that are read -/
theorem empty_H {prog : Program} {w : World} {h : Heap} {a : Addr} (x : h.DictOf (mixKind prog w) a []) : h.DictOfH (tupleKind (mixKind prog w)) a [] := by
  obtain ⟨o, es, ep, h1, h2, h3, _, h5, _⟩ := x
  refine ⟨o, es, ep, h1, h2, h3, ?_, fun x hx => absurd hx (by simp), List.nodup_nil⟩
  cases e : es.toList with
  | nil => rfl
  | cons x r => rw [e] at h5; cases h5
theorem empty_K {prog : Program} {w : World} {h : Heap} {a : Addr} (x : h.DictOfH (tupleKind (mixKind prog w)) a []) : h.DictOf (mixKind prog w) a [] := by
  obtain ⟨o, es, ep, h1, h2, h3, h4, _, _⟩ := x
  have e : es.toList = [] := h4
  refine ⟨o, es, ep, h1, h2, h3, ?_, by rw [e]; exact .nil, List.nodup_nil⟩
  intro x hx
  have : x ∈ es.toList := by simpa using hx
  rw [e] at this; cases this
/-- a key as a value -/
def KeyV (H : Hp) (y : V) : Prop := (∃ k, y = kV k) ∨ ∃ (b : Addr) (k : List Key), y = .ref b ∧ H b = some (.tup (k.map kV))
/-- what the dict at a holds at y; an empty one holds nothing at all -/
def DG (H : Hp) (a : Addr) (y : V) (r : Option V) : Prop := DGet H a y r ∨ ((Rd H a (.dK []) ∨ Rd H a (.dT [])) ∧ KeyV H y ∧ r = none)
section
variable {X : Cx} {pins : List (Addr × Obj)} {σ : St} {H : Hp} {s : Shared} {a : Addr} {y v d : V} {u r : Value} {o : Option V} {A : Around} {E : Value → Shared → Prop}
theorem empty_at (I : Inv X pins σ H s) (h : Rd H a (.dK []) ∨ Rd H a (.dT [])) : (a == sysModules) = false ∧ s.heap.DictOf (mixKind X.prog X.w) a [] ∧ s.heap.DictOfH (tupleKind (mixKind X.prog X.w)) a [] := by
  rcases h with h | h
  · obtain ⟨_, hd, vs, rel, dd⟩ := dk_rd I.hok h
    cases rel
    exact ⟨hd, dd, empty_H dd⟩
  · obtain ⟨_, hd, xs, rel, dd⟩ := dt_rd I.hok h
    cases rel
    exact ⟨hd, empty_K dd, dd⟩
theorem DG.some_ (g : DG H a y (some v)) : DGet H a y (some v) := by
  rcases g with g | ⟨_, _, e⟩
  · exact g
  · cases e
theorem dg_in {Q : Value → Shared → Prop} (hu : A.units + 1 < cLine) (I : Inv X pins σ H s) (g : DG H a y o) (ry : RelV y u) (h : ∀ s', Inv X pins σ H s' → Q (.bool o.isSome) s') :
    wpAny (model X.prog X.w) A (compareOp .In u (.ref a)) Q E s := by
  rcases g with g | ⟨e, k, rfl⟩
  · exact d_in hu I g ry h
  · obtain ⟨hd, d1, d2⟩ := empty_at I e
    rcases k with ⟨k, rfl⟩ | ⟨b, k, rfl, hb⟩
    · exact wpAny_in_of (kV_is ry) hd d1.mapOf (h _ (I.tok _))
    · cases (show u = Value.ref b from ry)
      exact wpAny_in_heap (tupleKind_room_in1 hu) (key_of I.hok hb) hd d2 (h _ (I.tok _))
theorem dg_notIn {Q : Value → Shared → Prop} (hu : A.units + 1 < cLine) (I : Inv X pins σ H s) (g : DG H a y o) (ry : RelV y u) (h : ∀ s', Inv X pins σ H s' → Q (.bool (!o.isSome)) s') :
    wpAny (model X.prog X.w) A (compareOp .NotIn u (.ref a)) Q E s := by
  rcases g with g | ⟨e, k, rfl⟩
  · exact d_notIn hu I g ry h
  · obtain ⟨hd, d1, d2⟩ := empty_at I e
    rcases k with ⟨k, rfl⟩ | ⟨b, k, rfl, hb⟩
    · exact wpAny_notIn_of (kV_is ry) hd d1.mapOf (h _ (I.tok _))
    · cases (show u = Value.ref b from ry)
      exact wpAny_notIn_heap (tupleKind_room_in1 hu) (key_of I.hok hb) hd d2 (h _ (I.tok _))
theorem dg_get1 {Q : Value → Shared → Prop} (hu : A.units + 1 < cLine) (I : Inv X pins σ H s) (g : DG H a y o) (ry : RelV y u) (h : ∀ w' s', Inv X pins σ H s' → RelV (o.getD .non) w' → Q w' s') :
    wpAny (model X.prog X.w) A (call (.builtin "dict.get") [.ref a, u]) Q E s := by
  rcases g with g | ⟨e, k, rfl⟩
  · exact d_get1 hu I g ry h
  · obtain ⟨hd, d1, d2⟩ := empty_at I e
    rcases k with ⟨k, rfl⟩ | ⟨b, k, rfl, hb⟩
    · exact call_meetsIn PySem.F.slot_dict_get d1.typeIs PySem.F.entry_dict_get (PySem.F.args_dict_get_2 _ _) (meets_dict_get (mixKind X.prog X.w) a (kV_is ry) hd) ⟨_, d1.mapOf, h _ _ (I.tok _) rfl⟩
    · cases (show u = Value.ref b from ry)
      exact call_meetsIn PySem.F.slot_dict_get d2.typeIs PySem.F.entry_dict_get (PySem.F.args_dict_get_2 _ _) (meetsH_dict_get (tupleKind (mixKind X.prog X.w)) a b hd) ⟨tupleKind_room_in1 hu, k, [], key_of I.hok hb, d2, h _ _ (I.tok _) rfl⟩
theorem dg_get2 {Q : Value → Shared → Prop} (hu : A.units + 1 < cLine) (I : Inv X pins σ H s) (g : DG H a y o) (ry : RelV y u) (rd : RelV d r) (h : ∀ w' s', Inv X pins σ H s' → RelV (o.getD d) w' → Q w' s') :
    wpAny (model X.prog X.w) A (call (.builtin "dict.get") [.ref a, u, r]) Q E s := by
  rcases g with g | ⟨e, k, rfl⟩
  · exact d_get2 hu I g ry rd h
  · obtain ⟨hd, d1, d2⟩ := empty_at I e
    rcases k with ⟨k, rfl⟩ | ⟨b, k, rfl, hb⟩
    · exact call_meetsIn PySem.F.slot_dict_get d1.typeIs PySem.F.entry_dict_get (PySem.F.args_dict_get_3 _ _ _) (meets_dict_get_default (mixKind X.prog X.w) a (kV_is ry) hd r) ⟨_, d1.mapOf, h _ _ (I.tok _) rd⟩
    · cases (show u = Value.ref b from ry)
      exact call_meetsIn PySem.F.slot_dict_get d2.typeIs PySem.F.entry_dict_get (PySem.F.args_dict_get_3 _ _ _) (meetsH_dict_get_default (tupleKind (mixKind X.prog X.w)) a b hd r) ⟨tupleKind_room_in1 hu, k, [], key_of I.hok hb, d2, h _ _ (I.tok _) rd⟩
/-- the heap behind a[y] = v, an empty dict being of either kind -/
def DP (H : Hp) (a : Addr) (y v : V) (H' : Hp) : Prop := DPut H a y v H' ∨
  (H a = some (.dT []) ∧ ∃ k, y = kV k ∧ H' = upd H a (.dK [(k, v)])) ∨ (H a = some (.dK []) ∧ ∃ (b : Addr) (k : List Key), y = .ref b ∧ H b = some (.tup (k.map kV)) ∧ H' = upd H a (.dT [(k, v)]))
theorem dg_setItem {H' : Hp} {Q : Unit → Shared → Prop} (hu : A.units + 1 < cLine) (I : Inv X pins σ H s) (g : DP H a y v H') (ry : RelV y u) (rv : RelV v r) (h : ∀ s', Inv X pins σ H' s' → Q () s') :
    wpAny (model X.prog X.w) A (setItem (.ref a) u r) Q E s := by
  rcases g with g | ⟨e, k, rfl, rfl⟩ | ⟨e, b, k, rfl, hb, rfl⟩
  · exact d_setItem hu I g ry rv h
  · obtain ⟨hd, d1, d2⟩ := empty_at I (.inr (.inl e))
    refine wpAny_setItem_pairs (hsz := Nat.zero_le _) (kV_is ry) d1 fun h' dd' hs => h _ ?_
    have he : ∃ q, h'.get? a = some q := let ⟨q, _, _, hq, _⟩ := dd'; ⟨q, hq⟩
    refine d_write I (by rw [e]; exact True.intro) hs he (dk_new (vs := [(k, r)]) ?_ hd (.cons ⟨rfl, rv⟩ .nil) dd')
    rw [sizeLine_eq]
    simp
  · cases (show u = Value.ref b from ry)
    obtain ⟨hd, d1, d2⟩ := empty_at I (.inl (.inl e))
    refine wpAny_setItem_heap (hsz := Nat.zero_le _) (tupleKind_room_in1 hu) (key_of I.hok hb) d2 fun h' dd' hs => h _ ?_
    obtain ⟨q, es, ep, hq, h2, h3, h4, _, h5⟩ := dd'
    refine d_write I (by rw [e]; exact True.intro) hs ⟨q, hq⟩ ⟨?_, hd, [(k, b, r)], .cons ⟨rfl, ?_, rv⟩ .nil, q, es, ep, hq, h2, h3, h4, h5⟩
    · rw [sizeLine_eq]
      simp
    · rw [upd_ne (ne_of hb e (fun z => nomatch z))]
      exact hb
end
/-! ### keys and tables, as data -/
theorem keyD_eqv (a b : Key) : PyData.eqv (keyD a) (keyD b) = decide (a = b) := by
  cases a with
  | inl i => cases b with
    | inl j => rw [keyD, keyD, PyData.eqv, key_ll]
    | inr y => simp [keyD, PyData.eqv]
  | inr x => cases b with
    | inl j => simp [keyD, PyData.eqv]
    | inr y => rw [keyD, keyD, PyData.eqv, key_rr]; exact Bool.beq_eq_decide_eq x y
theorem keysD_eqvAll : ∀ a b : List Key, PyData.eqvAll (a.map keyD) (b.map keyD) = decide (a = b)
  | [], [] => by simp [PyData.eqvAll]
  | [], _ :: _ => by simp [PyData.eqvAll]
  | _ :: _, [] => by simp [PyData.eqvAll]
  | x :: xs, y :: ys => by
    rw [List.map_cons, List.map_cons, PyData.eqvAll, keyD_eqv, keysD_eqvAll xs ys]
    by_cases h1 : x = y <;> by_cases h2 : xs = ys <;> simp [h1, h2]
theorem keysD_eqv (a b : List Key) : PyData.eqv (keysD a) (keysD b) = decide (a = b) := by
  rw [keysD, keysD, PyData.eqv, keysD_eqvAll]
theorem key_mix (a : Key) (b : List Key) : PyData.eqv (keyD a) (keysD b) = false ∧ PyData.eqv (keysD b) (keyD a) = false := by
  cases a <;> simp [keyD, keysD, PyData.eqv]
/-- a key's value is one of the layer's keys -/
theorem rd_key1 {P : Hp} {d : D} {v : V} (k : isKey1 d = true) (r : RD P d v) : ∃ q, d = keyD q ∧ v = kV q := by
  cases d with
  | int i => rw [RD] at r; exact ⟨.inl i, rfl, r⟩
  | str x => rw [RD] at r; exact ⟨.inr x, rfl, r⟩
  | _ => cases k
theorem rd_keys {P : Hp} : ∀ {ds : List D} {vs : List V}, ds.all isKey1 = true → RDs P ds vs → ∃ qs : List Key, ds = qs.map keyD ∧ vs = qs.map kV
  | [], _, _, r => ⟨[], rfl, r.nil_inv⟩
  | d :: ds, _, k, r => by
    obtain ⟨v, t, rfl, h1, h2⟩ := r.inv
    rw [List.all_cons, Bool.and_eq_true] at k
    obtain ⟨q, rfl, rfl⟩ := rd_key1 k.1 h1
    obtain ⟨qs, rfl, rfl⟩ := rd_keys k.2 h2
    exact ⟨q :: qs, rfl, rfl⟩
theorem vw_key {P H : Hp} (s : ∀ a o, P a = some o → H a = some o) {d : D} {v : V} (k : isKey d = true) (r : Vw P H d v) : (∃ q, d = keyD q ∧ v = kV q) ∨ ∃ (q : List Key) (b : Addr), d = keysD q ∧ v = .ref b ∧ H b = some (.tup (q.map kV)) := by
  cases d with
  | int i => exact .inl ⟨.inl i, rfl, vw_int r⟩
  | str x => exact .inl ⟨.inr x, rfl, vw_str r⟩
  | tuple ds =>
    obtain ⟨a, vs, rfl, _, h1, h2⟩ := vw_tup s r
    obtain ⟨qs, rfl, rfl⟩ := rd_keys k h2
    exact .inr ⟨qs, a, rfl, rfl, h1⟩
  | _ => cases k
theorem RK.get {P : Hp} : ∀ {kvs : List (D × D)} {ks : List (Key × V)} (q : Key), RK P kvs ks → (dget kvs (keyD q) = none ∧ valV ks q = none) ∨ ∃ d v, dget kvs (keyD q) = some d ∧ valV ks q = some v ∧ RD P d v
  | [], _, q, r => by
    rw [RK] at r
    subst r
    exact .inl ⟨rfl, rfl⟩
  | (k, d) :: r, _, q, h => by
    rw [RK] at h
    obtain ⟨q', v, t, rfl, rfl, h1, h2⟩ := h
    by_cases e : q' = q
    · subst e
      refine .inr ⟨d, v, ?_, valV_pos rfl, h1⟩
      simp [dget, List.find?_cons, keyD_eqv]
    · rw [valV_neg (p := (q', v)) e]
      have : dget ((keyD q', d) :: r) (keyD q) = dget r (keyD q) := by simp [dget, List.find?_cons, keyD_eqv, e]
      rw [this]
      exact RK.get q h2
theorem RT.get {P : Hp} : ∀ {kvs : List (D × D)} {ks : List (List Key × V)} (q : List Key), RT P kvs ks → (dget kvs (keysD q) = none ∧ valV ks q = none) ∨ ∃ d v, dget kvs (keysD q) = some d ∧ valV ks q = some v ∧ RD P d v
  | [], _, q, r => by
    rw [RT] at r
    subst r
    exact .inl ⟨rfl, rfl⟩
  | (k, d) :: r, _, q, h => by
    rw [RT] at h
    obtain ⟨q', v, t, rfl, rfl, h1, h2⟩ := h
    by_cases e : q' = q
    · subst e
      refine .inr ⟨d, v, ?_, valV_pos rfl, h1⟩
      simp [dget, List.find?_cons, keysD_eqv]
    · rw [valV_neg (p := (q', v)) e]
      have : dget ((keysD q', d) :: r) (keysD q) = dget r (keysD q) := by simp [dget, List.find?_cons, keysD_eqv, e]
      rw [this]
      exact RT.get q h2
end SW

set_option Elab.async false
set_option linter.all false
set_option maxRecDepth 100000
set_option maxHeartbeats 2000000
/-! == of dicts -/
namespace SW
open PySem PySem.Spec L2
open PyProof.Rows hiding St
/-- a dict by ints and texts, as it stands -/
def Dm (H : Hp) (a : Addr) (ks : List (Key × V)) : Prop := Rd H a (.dK ks) ∨ (ks = [] ∧ Rd H a (.dT []))
theorem dm_of {P H : Hp} {kvs : List (D × D)} {v : V} (h : Vw P H (.dict kvs) v) (hk : (kvs.all fun p => isKey1 p.1) = true) : ∃ a ks, v = .ref a ∧ Dm H a ks ∧ RK P kvs ks := by
  obtain ⟨a, rfl, ⟨ks, h1, h2⟩ | ⟨ts, h1, h2⟩⟩ := h
  · exact ⟨a, ks, rfl, .inl h1, h2⟩
  · cases kvs with
    | nil =>
      have e : ts = [] := h2
      subst e
      exact ⟨a, [], rfl, .inr ⟨rfl, h1⟩, by rw [RK]⟩
    | cons p r =>
      obtain ⟨k, d⟩ := p
      obtain ⟨q, v, t, _, e, _⟩ := h2
      rw [List.all_cons, Bool.and_eq_true] at hk
      rw [show k = keysD q from e] at hk
      exact absurd hk.1 (by simp [isKey1, keysD])
theorem RK.len {P : Hp} : ∀ {kvs : List (D × D)} {ks : List (Key × V)}, RK P kvs ks → kvs.length = ks.length
  | [], _, h => by rw [RK] at h; subst h; rfl
  | (k, d) :: r, _, h => by
    rw [RK] at h
    obtain ⟨q, v, t, rfl, _, _, h2⟩ := h
    rw [List.length_cons, List.length_cons, RK.len h2]
theorem flat_of {P : Hp} {d : D} {v : V} {u : Value} (f : flatD d = true) (r : RD P d v) (rv : RelV v u) : PyProof.V.Flat u d := by
  cases d with
  | none => rw [RD] at r; subst r; cases rv; exact fun h => .none
  | bool b => rw [RD] at r; subst r; cases rv; exact fun h => .bool b
  | int i => rw [RD] at r; subst r; obtain ⟨t, rfl⟩ := rv; exact fun h => .int i t
  | str x => rw [RD] at r; subst r; obtain ⟨t, rfl⟩ := rv; exact fun h => .str x t
  | _ => cases f
def dE1 (b : List (D × D)) (p : D × D) : Bool := match dget b p.1 with
  | some v => PyData.eqv p.2 v
  | none => false
theorem hits_of {A : Around} {s : Shared} {P : Hp} {b : List (D × D)} {kb : List (Key × V)} {vb : List (Key × Value)} (hb : RK P b kb) (rb : KV kb vb) (fb : ∀ p ∈ b, flatD p.2 = true) : ∀ {a : List (D × D)} {ka : List (Key × V)} {va : List (Key × Value)}, RK P a ka → KV ka va → (∀ p ∈ a, flatD p.2 = true) → PySem.W.KeqHits A s vb va (a.all (dE1 b))
  | [], _, va, ha, ra, _ => by
    rw [RK] at ha
    subst ha
    cases ra
    exact .nil
  | (k, d) :: r, _, va, ha, ra, fa => by
    rw [RK] at ha
    obtain ⟨q, v, t, rfl, rfl, h1, h2⟩ := ha
    cases ra with
    | cons hq hr =>
      rename_i p pr
      obtain ⟨q', u⟩ := p
      obtain ⟨rfl, hu⟩ := hq
      have hv := KV.val rb q
      rw [List.all_cons]
      rcases RK.get q hb with ⟨e1, e2⟩ | ⟨d', v', e1, e2, e3⟩
      · rw [e2] at hv
        have hn : valueAt vb q = none := by
          cases hz : valueAt vb q with
          | none => rfl
          | some z => rw [hz] at hv; exact absurd hv (by intro z; cases z)
        have : dE1 b (keyD q, d) = false := by unfold dE1; rw [e1]
        rw [this, Bool.false_and]
        exact .miss hn
      · rw [e2] at hv
        cases hz : valueAt vb q with
        | none => rw [hz] at hv; exact absurd hv (by intro z; cases z)
        | some u' =>
          rw [hz] at hv
          have hv : RelV v' u' := hv
          have hd' : flatD d' = true := by
            unfold dget at e1
            cases hf : b.find? (fun p => PyData.eqv p.1 (keyD q)) with
            | none => rw [hf] at e1; cases e1
            | some p =>
              rw [hf] at e1
              cases e1
              exact fb p (List.mem_of_find?_eq_some hf)
          have : dE1 b (keyD q, d) = PyData.eqv d d' := by unfold dE1; rw [e1]
          rw [this]
          exact .hit hz (PySem.W.keq_flat (flat_of (fa (keyD q, d) (by simp)) h1 hu) (flat_of hd' e3 hv)) (hits_of hb rb fb h2 hr fun p hp => fa p (by simp [hp]))
section
variable {X : Cx} {pins : List (Addr × Obj)} {σ : St} {H : Hp} {s : Shared} {a : Addr} {ks : List (Key × V)}
theorem dm_at (I : Inv X pins σ H s) (h : Dm H a ks) : ks.length ≤ sizeLine ∧ (a == sysModules) = false ∧ ∃ vs, KV ks vs ∧ s.heap.DictOf (mixKind X.prog X.w) a vs := by
  rcases h with h | ⟨rfl, h⟩
  · obtain ⟨z, lo, vs, rel, dd⟩ := dk_rd I.hok h
    exact ⟨z, lo, vs, rel, dd⟩
  · obtain ⟨lo, dd, _⟩ := empty_at I (.inr h)
    exact ⟨by simp, lo, [], .nil, dd⟩
theorem dicts_eq {P : Hp} {x y : V} {v u : Value} {d e : D} {b : Bool} (hu : X.A.units < cLine) (I : Inv X pins σ H s) (rx : RelV x v) (ry : RelV y u) (vd : Vw P H d x) (ve : Vw P H e y) (h : dEq d e = some b) :
    (∀ Q : Value → Shared → Prop, Q (.bool b) s → wpAny (model X.prog X.w) X.A (compareOp .Eq v u) Q X.xe s) ∧ ∀ Q : Value → Shared → Prop, Q (.bool (!b)) s → wpAny (model X.prog X.w) X.A (compareOp .NotEq v u) Q X.xe s := by
  cases d with
  | dict ka =>
    cases e with
    | dict kb =>
      have h : (if dEqOk ka kb = true then some (dEqB ka kb) else none) = some b := h
      obtain ⟨hk, h⟩ := Option.ite_none_right_eq_some.mp h
      have h := h
      unfold dEqOk at hk
      rw [Bool.and_eq_true, List.all_eq_true, List.all_eq_true] at hk
      have f1 : ∀ p ∈ ka, isKey1 p.1 = true ∧ flatD p.2 = true := fun p hp => Bool.and_eq_true_iff.mp (hk.1 p hp)
      have f2 : ∀ p ∈ kb, isKey1 p.1 = true ∧ flatD p.2 = true := fun p hp => Bool.and_eq_true_iff.mp (hk.2 p hp)
      obtain ⟨a1, ks1, rfl, m1, r1⟩ := dm_of vd (List.all_eq_true.mpr fun p hp => (f1 p hp).1)
      obtain ⟨a2, ks2, rfl, m2, r2⟩ := dm_of ve (List.all_eq_true.mpr fun p hp => (f2 p hp).1)
      cases (show v = Value.ref a1 from rx)
      cases (show u = Value.ref a2 from ry)
      obtain ⟨_, lo1, vs1, kv1, d1⟩ := dm_at I m1
      obtain ⟨_, lo2, vs2, kv2, d2⟩ := dm_at I m2
      have hits := hits_of (A := X.A.in1) (s := s) r2 kv2 (fun p hp => (f2 p hp).2) r1 kv1 (fun p hp => (f1 p hp).2)
      have l1 : vs1.length = ka.length := by rw [RK.len r1, Paired.length kv1]
      have l2 : vs2.length = kb.length := by rw [RK.len r2, Paired.length kv2]
      have eb : (vs1.length == vs2.length && ka.all (dE1 kb)) = b := by
        rw [l1, l2]
        exact Option.some.inj h
      exact ⟨fun Q q => PySem.W.keq_eq lo1 lo2 d1 d2 hu (fun _ => hits) (by rw [eb]; exact q), fun Q q => PySem.W.keq_ne lo1 lo2 d1 d2 hu (fun _ => hits) (by rw [eb]; exact q)⟩
    | _ => cases h
  | _ => cases h
end
end SW

set_option Elab.async false
set_option linter.all false
set_option maxRecDepth 100000
set_option maxHeartbeats 2000000
namespace SW
open PySem PySem.Spec L2
open PyProof.Rows hiding St
section
variable {X : Cx} {Wx : Wish}
theorem op_isAny (x : V) : True := trivial
theorem shaped_lay {d : D} (h : SeqAt.shaped d = true) : d.canLay0 = true := SeqAt.canLay_of_shaped h
theorem eq_ok {d e : D} (h : eqOk d e = true) : SeqAt.shaped d = true ∧ SeqAt.shaped e = true := Bool.and_eq_true_iff.mp h
/-- x in a tuple, of data -/
theorem in_tup (hu : X.A.units + 65 < cLine) {pins : List (Addr × Obj)} {s : Shared} {σ : St} {H : Hp} {x y : V} {v u : Value} {d : D} {ds : List D} {Q : Value → Shared → Prop} (I : Inv X pins σ H s) (rx : RelV x v) (ry : RelV y u)
    (hd : Dp X.K H x d) (he : Dp X.K H y (.tuple ds)) (sd : SeqAt.shaped d = true) (se : SeqAt.shaped (.tuple ds) = true) (q : Q (.bool (ds.any fun z => PyData.eqv z d)) s) : wpAny (model X.prog X.w) X.A (compareOp .In v u) Q X.xe s := by
  obtain ⟨as, r1⟩ := Dp.reads I d x v hd rx
  obtain ⟨bs, r2⟩ := Dp.reads I (.tuple ds) y u he ry
  exact SeqAt.in_tuple_reads r2 r1 (SeqAt.canLay_of_shaped se) (SeqAt.canLay_of_shaped sd) (room_in_shaped sd hu) q
theorem notIn_tup (hu : X.A.units + 65 < cLine) {pins : List (Addr × Obj)} {s : Shared} {σ : St} {H : Hp} {x y : V} {v u : Value} {d : D} {ds : List D} {Q : Value → Shared → Prop} (I : Inv X pins σ H s) (rx : RelV x v) (ry : RelV y u)
    (hd : Dp X.K H x d) (he : Dp X.K H y (.tuple ds)) (sd : SeqAt.shaped d = true) (se : SeqAt.shaped (.tuple ds) = true) (q : Q (.bool (!ds.any fun z => PyData.eqv z d)) s) : wpAny (model X.prog X.w) X.A (compareOp .NotIn v u) Q X.xe s := by
  obtain ⟨as, r1⟩ := Dp.reads I d x v hd rx
  obtain ⟨bs, r2⟩ := Dp.reads I (.tuple ds) y u he ry
  exact SeqAt.notIn_tuple_reads r2 r1 (SeqAt.canLay_of_shaped se) (SeqAt.canLay_of_shaped sd) (room_in_shaped sd hu) q
theorem fits_keyD {q : Key} {kvs : List (D × D)} {ts : List (List Key × V)} {P : Hp} (h : keyFits kvs (keyD q) = true) (r : RT P kvs ts) : kvs = [] := by
  cases kvs with
  | nil => rfl
  | cons p t =>
    obtain ⟨k, d⟩ := p
    rw [RT] at r
    obtain ⟨q', v, t', rfl, rfl, _, _⟩ := r
    unfold keyFits at h
    rw [Bool.and_eq_true, List.all_cons, Bool.and_eq_true] at h
    obtain ⟨_, h, _⟩ := h
    cases q <;> cases h
theorem fits_keysD {q : List Key} {kvs : List (D × D)} {ts : List (Key × V)} {P : Hp} (h : keyFits kvs (keysD q) = true) (r : RK P kvs ts) : kvs = [] := by
  cases kvs with
  | nil => rfl
  | cons p t =>
    obtain ⟨k, d⟩ := p
    rw [RK] at r
    obtain ⟨q', v, t', rfl, rfl, _, _⟩ := r
    unfold keyFits at h
    rw [Bool.and_eq_true, List.all_cons, Bool.and_eq_true] at h
    obtain ⟨_, h, _⟩ := h
    cases q' <;> cases h
theorem fits_key {kvs : List (D × D)} {k : D} (h : keyFits kvs k = true) : isKey k = true := (Bool.and_eq_true_iff.mp h).1
/-- what the dict holds at a key, as data and in the heap -/
theorem dict_at {P H : Hp} (s : ∀ a o, P a = some o → H a = some o) {kvs : List (D × D)} {k : D} {x y : V} (hx : Vw P H (.dict kvs) x) (hk : keyFits kvs k = true) (hy : Vw P H k y) :
    ∃ a o, x = .ref a ∧ DG H a y o ∧ ((dget kvs k = none ∧ o = none) ∨ ∃ d v, dget kvs k = some d ∧ o = some v ∧ RD P d v) := by
  obtain ⟨a, rfl, ⟨ks, h1, h2⟩ | ⟨ts, h1, h2⟩⟩ := hx
  · rcases vw_key s (fits_key hk) hy with ⟨q, rfl, rfl⟩ | ⟨q, b, rfl, rfl, hb⟩
    · refine ⟨a, valV ks q, rfl, .inl (.inl ⟨ks, q, h1, rfl, rfl⟩), ?_⟩
      rcases RK.get q h2 with ⟨e1, e2⟩ | ⟨d, v, e1, e2, e3⟩
      · exact .inl ⟨e1, e2⟩
      · exact .inr ⟨d, v, e1, e2, e3⟩
    · cases fits_keysD hk h2
      rw [RK] at h2
      subst h2
      exact ⟨a, none, rfl, .inr ⟨.inl h1, .inr ⟨b, q, rfl, hb⟩, rfl⟩, .inl ⟨rfl, rfl⟩⟩
  · rcases vw_key s (fits_key hk) hy with ⟨q, rfl, rfl⟩ | ⟨q, b, rfl, rfl, hb⟩
    · cases fits_keyD hk h2
      rw [RT] at h2
      subst h2
      exact ⟨a, none, rfl, .inr ⟨.inr h1, .inl ⟨q, rfl⟩, rfl⟩, .inl ⟨rfl, rfl⟩⟩
    · refine ⟨a, valV ts q, rfl, .inl (.inr ⟨ts, q, b, h1, rfl, hb, rfl⟩), ?_⟩
      rcases RT.get q h2 with ⟨e1, e2⟩ | ⟨d, v, e1, e2, e3⟩
      · exact .inl ⟨e1, e2⟩
      · exact .inr ⟨d, v, e1, e2, e3⟩
/-- x in y, by the data -/
theorem in_data (hu : X.A.units + 65 < cLine) {pins : List (Addr × Obj)} {s : Shared} {σ : St} {P H : Hp} {x y : V} {v u : Value} {d e : D} {b : Bool} {Q : Value → Shared → Prop} (sub : ∀ a o, P a = some o → H a = some o) (I : Inv X pins σ H s) (rx : RelV x v) (ry : RelV y u)
    (vd : Vw P H d x) (ve : Vw P H e y) (h : inD d e = some b) (q : ∀ s', Inv X pins σ H s' → Q (.bool b) s') : wpAny (model X.prog X.w) X.A (compareOp .In v u) Q X.xe s := by
  cases e with
  | list ds =>
    simp only [inD] at h
    split at h
    · rename_i c
      obtain ⟨c1, c2⟩ := eq_ok c
      cases h
      obtain ⟨as, r1⟩ := Dp.reads I d x v (vd.dp sub (shaped_lay c1)) rx
      obtain ⟨bs, r2⟩ := Dp.reads I (.list ds) y u (ve.dp sub (shaped_lay c2)) ry
      exact SeqAt.in_list_reads r2 r1 (SeqAt.canLay_of_shaped c2) (SeqAt.canLay_of_shaped c1) (room_in_shaped c1 hu) (q s I)
    · cases h
  | tuple ds =>
    simp only [inD] at h
    split at h
    · rename_i c
      obtain ⟨c1, c2⟩ := eq_ok c
      cases h
      exact in_tup hu I rx ry (vd.dp sub (shaped_lay c1)) (ve.dp sub (shaped_lay c2)) c1 c2 (q s I)
    · cases h
  | dict kvs =>
    simp only [inD] at h
    split at h
    · rename_i c
      cases h
      obtain ⟨a, o, rfl, g, z⟩ := dict_at sub ve c vd
      cases (show u = Value.ref a from ry)
      refine dg_in (o := o) (by omega) I g rx fun s' I' => ?_
      have : o.isSome = (dget kvs d).isSome := by
        rcases z with ⟨e1, e2⟩ | ⟨_, _, e1, e2, _⟩ <;> rw [e1, e2] <;> rfl
      rw [this]
      exact q s' I'
    · cases h
  | str z =>
    cases d with
    | str w =>
      cases h
      have e1 := vw_str vd
      have e2 := vw_str ve
      subst e1 e2
      obtain ⟨t, rfl⟩ := rx
      obtain ⟨t', rfl⟩ := ry
      exact PyProof.Rows.in_str (q s I)
    | _ => cases h
  | _ => cases h
theorem notIn_data (hu : X.A.units + 65 < cLine) {pins : List (Addr × Obj)} {s : Shared} {σ : St} {P H : Hp} {x y : V} {v u : Value} {d e : D} {b : Bool} {Q : Value → Shared → Prop} (sub : ∀ a o, P a = some o → H a = some o) (I : Inv X pins σ H s) (rx : RelV x v) (ry : RelV y u)
    (vd : Vw P H d x) (ve : Vw P H e y) (h : inD d e = some b) (q : ∀ s', Inv X pins σ H s' → Q (.bool (!b)) s') : wpAny (model X.prog X.w) X.A (compareOp .NotIn v u) Q X.xe s := by
  cases e with
  | list ds =>
    simp only [inD] at h
    split at h
    · rename_i c
      obtain ⟨c1, c2⟩ := eq_ok c
      cases h
      obtain ⟨as, r1⟩ := Dp.reads I d x v (vd.dp sub (shaped_lay c1)) rx
      obtain ⟨bs, r2⟩ := Dp.reads I (.list ds) y u (ve.dp sub (shaped_lay c2)) ry
      exact SeqAt.notIn_list_reads r2 r1 (SeqAt.canLay_of_shaped c2) (SeqAt.canLay_of_shaped c1) (room_in_shaped c1 hu) (q s I)
    · cases h
  | tuple ds =>
    simp only [inD] at h
    split at h
    · rename_i c
      obtain ⟨c1, c2⟩ := eq_ok c
      cases h
      exact notIn_tup hu I rx ry (vd.dp sub (shaped_lay c1)) (ve.dp sub (shaped_lay c2)) c1 c2 (q s I)
    · cases h
  | dict kvs =>
    simp only [inD] at h
    split at h
    · rename_i c
      cases h
      obtain ⟨a, o, rfl, g, z⟩ := dict_at sub ve c vd
      cases (show u = Value.ref a from ry)
      refine dg_notIn (o := o) (by omega) I g rx fun s' I' => ?_
      have : o.isSome = (dget kvs d).isSome := by
        rcases z with ⟨e1, e2⟩ | ⟨_, _, e1, e2, _⟩ <;> rw [e1, e2] <;> rfl
      rw [this]
      exact q s' I'
    · cases h
  | str z =>
    cases d with
    | str w =>
      cases h
      have e1 := vw_str vd
      have e2 := vw_str ve
      subst e1 e2
      obtain ⟨t, rfl⟩ := rx
      obtain ⟨t', rfl⟩ := ry
      exact PyProof.Rows.notIn_str (q s I)
    | _ => cases h
  | _ => cases h
theorem vw_isNone {P H : Hp} {d : D} {v : V} (h : Vw P H d v) : decide (v = .non) = isNone d := by
  cases d with
  | none => rw [vw_none h]; rfl
  | bool b => rw [vw_bool h]; rfl
  | int b => rw [vw_int h]; rfl
  | str b => rw [vw_str h]; rfl
  | list ds => obtain ⟨a, vs, rfl, _⟩ := h; rfl
  | tuple ds =>
    have h : RD P (.tuple ds) v := h
    rw [RD] at h
    obtain ⟨a, vs, rfl, _⟩ := h; rfl
  | dict ds => obtain ⟨a, rfl, _⟩ := h; rfl
theorem op_cmpD (hu : X.A.units + 65 < cLine) (op : CmpOp) : OpR X (compareOp op) (rD2 Wx (fCmp op)) := by
  intro pins s σ0 H x y v u Q I rx ry h
  obtain ⟨P, σ, ρ, A, d, e, ok, vd, ve, out⟩ := h
  unfold fCmp at out
  cases hc : cmpD op d e with
  | none => rw [hc] at out; exact out.elim
  | some b =>
    rw [hc] at out
    have q : ∀ {b'}, b = b' → Q (.bl b') H := fun z => by subst z; exact out.bool ok
    have ends : ∀ s', Inv X pins σ0 H s' → EP X pins σ0 Q (.bool b) s' := fun s' I' => ⟨.bl b, H, I', rfl, q rfl⟩
    have hInts : ∀ f : Int → Int → Bool, cmpInt f d e = some b → ∃ i j, d = .int i ∧ e = .int j ∧ x = .int i ∧ y = .int j ∧ f i j = b := by
      intro f hf
      cases d <;> cases e <;> first
        | cases hf; done
        | exact ⟨_, _, rfl, rfl, vw_int vd, vw_int ve, Option.some.inj hf⟩
    cases op with
    | Eq =>
      simp only [cmpD] at hc
      split at hc
      · rename_i c
        obtain ⟨c1, c2⟩ := eq_ok c
        exact op_eqD (by omega) pins s σ0 H x y v u Q I rx ry ⟨d, e, vd.dp ok.sub (shaped_lay c1), ve.dp ok.sub (shaped_lay c2), c1, c2, q (Option.some.inj hc).symm⟩
      · exact (dicts_eq (by omega) I rx ry vd ve hc).1 _ (ends s I)
    | NotEq =>
      simp only [cmpD] at hc
      split at hc
      · rename_i c
        obtain ⟨c1, c2⟩ := eq_ok c
        exact op_neD (by omega) pins s σ0 H x y v u Q I rx ry ⟨d, e, vd.dp ok.sub (shaped_lay c1), ve.dp ok.sub (shaped_lay c2), c1, c2, q (Option.some.inj hc).symm⟩
      · cases hd : dEq d e with
        | none => rw [hd] at hc; cases hc
        | some c0 =>
          rw [hd] at hc
          have hb : (!c0) = b := Option.some.inj hc
          exact (dicts_eq (by omega) I rx ry vd ve hd).2 _ (by rw [hb]; exact ends s I)
    | Lt =>
      obtain ⟨i, j, _, _, rfl, rfl, z⟩ := hInts _ hc
      exact op_lt pins s σ0 H _ _ v u Q I rx ry ⟨i, j, rfl, rfl, q z.symm⟩
    | LtE =>
      obtain ⟨i, j, _, _, rfl, rfl, z⟩ := hInts _ hc
      exact op_le pins s σ0 H _ _ v u Q I rx ry ⟨i, j, rfl, rfl, q z.symm⟩
    | Gt =>
      obtain ⟨i, j, _, _, rfl, rfl, z⟩ := hInts _ hc
      exact op_gt pins s σ0 H _ _ v u Q I rx ry ⟨i, j, rfl, rfl, q z.symm⟩
    | GtE =>
      obtain ⟨i, j, _, _, rfl, rfl, z⟩ := hInts _ hc
      exact op_ge pins s σ0 H _ _ v u Q I rx ry ⟨i, j, rfl, rfl, q z.symm⟩
    | Is =>
      have hc : isD d e = some b := hc
      cases e with
      | none =>
        have z : isNone d = b := by cases d <;> exact Option.some.inj hc
        exact op_isN pins s σ0 H x y v u Q I rx ry ⟨vw_none ve, q (z.symm.trans (vw_isNone vd).symm)⟩
      | bool c =>
        cases d with
        | bool a =>
          have e1 := vw_bool vd
          have e2 := vw_bool ve
          subst e1 e2
          exact op_isBl pins s σ0 H _ _ v u Q I rx ry ⟨a, c, rfl, rfl, q ((Option.some.inj hc).symm.trans (Bool.beq_eq_decide_eq a c))⟩
        | none =>
          have e1 := vw_none vd
          have e2 := vw_bool ve
          subst e1 e2
          cases rx
          cases ry
          cases hc
          exact wpAny_is_other rfl (fun z => nomatch z) (ends s I)
        | _ => cases hc
      | _ => cases d <;> cases hc
    | IsNot =>
      have hc : (isD d e).map (!·) = some b := hc
      cases hd : isD d e with
      | none => rw [hd] at hc; cases hc
      | some c0 =>
        rw [hd] at hc
        have hb : (!c0) = b := Option.some.inj hc
        cases e with
        | none =>
          have z : isNone d = c0 := by cases d <;> exact Option.some.inj hd
          exact op_notN pins s σ0 H x y v u Q I rx ry ⟨vw_none ve, q (by rw [← hb, ← z, vw_isNone vd])⟩
        | bool c =>
          cases d with
          | bool a =>
            have e1 := vw_bool vd
            have e2 := vw_bool ve
            subst e1 e2
            exact op_notBl pins s σ0 H _ _ v u Q I rx ry ⟨a, c, rfl, rfl, q (by rw [← hb, ← (Option.some.inj hd : (a == c) = c0), Bool.beq_eq_decide_eq])⟩
          | none =>
            have e1 := vw_none vd
            have e2 := vw_bool ve
            subst e1 e2
            cases rx
            cases ry
            cases hd
            cases hb
            exact wpAny_isNot_other rfl (fun z => nomatch z) (ends s I)
          | _ => cases hd
        | _ => cases d <;> cases hd
    | In => exact in_data hu ok.sub I rx ry vd ve hc ends
    | NotIn =>
      have hc : (inD d e).map (!·) = some b := hc
      cases hd : inD d e with
      | none => rw [hd] at hc; cases hc
      | some c0 =>
        rw [hd] at hc
        have hb : (!c0) = b := Option.some.inj hc
        exact notIn_data hu ok.sub I rx ry vd ve hd fun s' I' => by rw [hb]; exact ends s' I'
end
end SW

set_option Elab.async false
set_option linter.all false
set_option maxRecDepth 100000
set_option maxHeartbeats 2000000
namespace SW
open PySem PySem.Spec L2
open PyProof.Rows hiding St
section
variable {X : Cx} {Wx : Wish}
theorem RDs.atI {P : Hp} {ds : List D} {vs : List V} {i : Int} {d : D} (r : RDs P ds vs) (h : L2.atI ds i = some d) : ∃ v, L2.atI vs i = some v ∧ RD P d v := by
  unfold L2.atI at h ⊢
  rw [← r.length]
  cases e : ixN ds.length i with
  | none => rw [e] at h; cases h
  | some j =>
    rw [e] at h
    obtain ⟨v, h1, h2⟩ := r.get (i := j) h
    exact ⟨v, h1, h2⟩
theorem map_some {α β : Type} {f : α → β} {o : Option α} {b : β} (h : o.map f = some b) : ∃ a, o = some a ∧ f a = b := Option.map_eq_some_iff.mp h
/-- a[b] -/
theorem ix_D (hu : X.A.units + 65 < cLine) : IxR X (rD2 Wx fIdx) := by
  intro value slice pins s σ0 H x y v u Q I rx ry h hs
  obtain ⟨P, σ, ρ, A, d, e, ok, vd, ve, out⟩ := h
  unfold fIdx at out
  cases hc : idxD d e with
  | none => rw [hc] at out; exact out.elim
  | some z =>
    rw [hc] at out
    have fin : ∀ w, RD P z w → Q w H := fun w r => out.val ok r
    cases d with
    | list ds =>
      cases e with
      | int i =>
        have e2 := vw_int ve
        subst e2
        obtain ⟨a, vs, rfl, h1, h2⟩ := vd
        obtain ⟨w, h3, h4⟩ := h2.atI hc
        exact ix_list value slice pins s σ0 H _ _ v u Q I rx ry ⟨a, vs, i, w, rfl, rfl, .inl h1, h3, fin w h4⟩ hs
      | _ => cases hc
    | tuple ds =>
      cases e with
      | int i =>
        have e2 := vw_int ve
        subst e2
        obtain ⟨a, vs, rfl, h0, h1, h2⟩ := vw_tup ok.sub vd
        obtain ⟨w, h3, h4⟩ := h2.atI hc
        exact ix_tup value slice pins s σ0 H _ _ v u Q I rx ry ⟨a, vs, i, w, rfl, rfl, .of h1, h3, fin w h4⟩ hs
      | _ => cases hc
    | str c =>
      cases e with
      | int i =>
        have e1 := vw_str vd
        have e2 := vw_int ve
        subst e1 e2
        simp only [idxD] at hc
        split at hc
        · rename_i hz
          obtain ⟨n, h1, h2⟩ := map_some hc
          subst h2
          exact ix_str value slice pins s σ0 H _ _ v u Q I rx ry ⟨c, i, n, rfl, rfl, hz, h1, fin _ rd_str⟩ hs
        · cases hc
      | _ => cases hc
    | dict kvs =>
      have hc : (if keyFits kvs e = true then dget kvs e else none) = some z := by
        cases e <;> exact hc
      split at hc
      · rename_i hk
        obtain ⟨a, o, rfl, g, w⟩ := dict_at ok.sub vd hk ve
        rcases w with ⟨e1, _⟩ | ⟨d', v', e1, e2, e3⟩
        · rw [e1] at hc; cases hc
        · rw [e1] at hc
          cases hc
          subst e2
          cases (show v = Value.ref a from rx)
          exact tail_any (dict_typeIs I g.some_) PySem.F.slot_dict_getitem.lookup (d_getItem (by omega) I g.some_ ry fun w' s' I' rw' => ⟨v', H, I', rw', fin v' e3⟩) hs
      · cases hc
    | _ => cases e <;> cases hc
/-- slices, by values -/
def rSlD (Wx : Wish) : V → Option Int → Option Int → Hp → VK → Prop := fun x lo hi H Q => ∃ P σ ρ A d, Ok P H σ ρ A ∧ Vw P H d x ∧ Out Wx RA σ P H A (rO (slcD d lo hi) ρ) Q
theorem RDs.cut {P : Hp} {ds : List D} {vs : List V} (r : RDs P ds vs) (lo hi : Option Int) : RDs P (cutL ds lo hi) (cutV vs lo hi) := by
  unfold cutL cutV
  rw [← r.length]
  exact (r.drop _).take _
theorem sl_D : SlR X (rSlD Wx) := by
  intro pins s σ0 H x v vl vu lo hi sl Q I rx hs pl pu h
  obtain ⟨P, σ, ρ, A, d, ok, vd, out⟩ := h
  cases d with
  | list ds =>
    obtain ⟨a, vs, rfl, h1, h2⟩ := vd
    exact sl_list pins s σ0 H _ v vl vu lo hi sl Q I rx hs pl pu ⟨a, vs, rfl, .inl h1, fun p hp => out.lst ok hp (h2.cut lo hi)⟩
  | tuple ds =>
    obtain ⟨a, vs, rfl, h0, h1, h2⟩ := vw_tup ok.sub vd
    have out : Out Wx RA σ P H A (.ok (.vl (.val (.tuple (cutL ds lo hi)))) ρ) Q := out
    refine sl_tupA pins s σ0 H _ v vl vu lo hi sl Q I rx hs pl pu ⟨a, vs, rfl, .of h1, fun hw => ?_, fun _ p hp => out.tup ok hp (h2.cut lo hi)⟩
    rw [← h2.length] at hw
    have e : cutL ds lo hi = ds := by
      unfold cutL
      rw [hw.1, hw.2, List.drop_zero, Nat.sub_zero, List.take_length]
    rw [e] at out
    exact out.val ok (by rw [RD]; exact ⟨a, vs, rfl, h0, h2⟩)
  | str z =>
    have e1 := vw_str vd
    subst e1
    simp only [slcD] at out
    split at out
    · rename_i hz
      exact sl_str pins s σ0 H _ v vl vu lo hi sl Q I rx hs pl pu ⟨z, rfl, hz, out.str ok⟩
    · exact out.elim
  | _ => exact out.elim

/-! ### built-in functions -/
/-- by their one argument -/
def rB1 (Wx : Wish) (f : D → Rho → R SW.A) : List V → Hp → VK → Prop := fun vs H Q => ∃ x, vs = [x] ∧ rD1 Wx f x H Q
theorem RDs.bools {P : Hp} : ∀ {ds : List D} {vs : List V} {bs : List Bool}, RDs P ds vs → boolsOf ds = some bs → vs = bs.map V.bl
  | [], _, _, r, h => by cases h; rw [r.nil_inv]; rfl
  | d :: ds, _, _, r, h => by
    obtain ⟨v, t, rfl, h1, h2⟩ := r.inv
    cases d with
    | bool b =>
      obtain ⟨bs', e, rfl⟩ := map_some h
      rw [RD] at h1
      subst h1
      rw [List.map_cons, RDs.bools h2 e]
    | _ => cases h
theorem RDs.strs {P : Hp} : ∀ {ds : List D} {vs : List V} {bs : List Str}, RDs P ds vs → strsOf ds = some bs → vs = bs.map V.str
  | [], _, _, r, h => by cases h; rw [r.nil_inv]; rfl
  | d :: ds, _, _, r, h => by
    obtain ⟨v, t, rfl, h1, h2⟩ := r.inv
    cases d with
    | str b =>
      obtain ⟨bs', e, rfl⟩ := map_some h
      rw [RD] at h1
      subst h1
      rw [List.map_cons, RDs.strs h2 e]
    | _ => cases h
theorem RK.length {P : Hp} : ∀ {kvs : List (D × D)} {ks : List (Key × V)}, RK P kvs ks → kvs.length = ks.length
  | [], _, r => by rw [RK] at r; subst r; rfl
  | (k, d) :: t, _, r => by
    rw [RK] at r
    obtain ⟨q, v, u, rfl, _, _, h⟩ := r
    rw [List.length_cons, List.length_cons, RK.length h]
theorem RT.length {P : Hp} : ∀ {kvs : List (D × D)} {ks : List (List Key × V)}, RT P kvs ks → kvs.length = ks.length
  | [], _, r => by rw [RT] at r; subst r; rfl
  | (k, d) :: t, _, r => by
    rw [RT] at r
    obtain ⟨q, v, u, rfl, _, _, h⟩ := r
    rw [List.length_cons, List.length_cons, RT.length h]
theorem cr_len : CallR X (.builtin "len") (rB1 Wx (fBlt .len)) := by
  intro pins s σ0 H xs us Q I rs h
  obtain ⟨x, rfl, P, σ, ρ, A, d, ok, vd, out⟩ := h
  unfold fBlt at out
  cases d with
  | list ds =>
    obtain ⟨a, vs, rfl, h1, h2⟩ := vd
    have q : Q (.int ds.length) H := out.int ok
    exact call_len pins s σ0 H _ us Q I rs ⟨_, ds.length, rfl, .inl ⟨vs, .inl h1, h2.length⟩, q⟩
  | tuple ds =>
    obtain ⟨a, vs, rfl, h0, h1, h2⟩ := vw_tup ok.sub vd
    have q : Q (.int ds.length) H := out.int ok
    exact call_len pins s σ0 H _ us Q I rs ⟨_, ds.length, rfl, .inr ⟨vs, .of h1, h2.length⟩, q⟩
  | str z =>
    have e := vw_str vd
    subst e
    simp only [bltD, lenD] at out
    split at out
    · rename_i hz
      have q : Q (.int z.length) H := out.int ok
      exact call_len pins s σ0 H _ us Q I rs ⟨_, z.length, rfl, ⟨hz, rfl⟩, q⟩
    · exact out.elim
  | dict kvs =>
    obtain ⟨a, rfl, ⟨ks, h1, h2⟩ | ⟨ts, h1, h2⟩⟩ := vd
    · have q : Q (.int kvs.length) H := out.int ok
      obtain ⟨u, rfl, ru⟩ := vals1 rs
      cases ru
      exact d_len I h1 fun t s' I' => ⟨.int ks.length, H, I', ⟨t, rfl⟩, by rw [← h2.length]; exact q⟩
    · have q : Q (.int kvs.length) H := out.int ok
      obtain ⟨u, rfl, ru⟩ := vals1 rs
      cases ru
      obtain ⟨z, hd, xs, rel, dd⟩ := dt_rd I.hok h1
      have hl : ts.length = xs.length := Paired.length rel
      refine call_len_dictH hd dd (by rw [← hl]; rw [sizeLine_eq] at z; omega) ?_
      rw [← hl, ← h2.length]
      exact ⟨.int kvs.length, H, I.tok _, ⟨_, rfl⟩, q⟩
  | _ => exact out.elim
/-- no dict -/
def rBn (Wx : Wish) (f : D → Rho → R SW.A) : List V → Hp → VK → Prop := fun vs H Q => ∃ x, vs = [x] ∧ ∃ P σ ρ A d, Ok P H σ ρ A ∧ Vw P H d x ∧ Out Wx RA σ P H A (f d ρ) Q ∧ ∀ kvs, d ≠ .dict kvs
theorem cr_list0 : CallR X (.type "list") (rBn Wx (fBlt .list)) := by
  intro pins s σ0 H xs us Q I rs h
  obtain ⟨x, rfl, P, σ, ρ, A, d, ok, vd, out, nd⟩ := h
  unfold fBlt at out
  cases d with
  | list ds =>
    obtain ⟨a, vs, rfl, h1, h2⟩ := vd
    exact call_list_of pins s σ0 H _ us Q I rs ⟨a, vs, rfl, .inl (.inl h1), fun p hp => out.lst ok hp h2⟩
  | tuple ds =>
    obtain ⟨a, vs, rfl, h0, h1, h2⟩ := vw_tup ok.sub vd
    exact call_list_of pins s σ0 H _ us Q I rs ⟨a, vs, rfl, .inr (.of h1), fun p hp => out.lst ok hp h2⟩
  | dict kvs => exact absurd rfl (nd kvs)
  | _ => exact out.elim
theorem cr_tuple : CallR X (.type "tuple") (rB1 Wx (fBlt .tuple)) := by
  intro pins s σ0 H xs us Q I rs h
  obtain ⟨x, rfl, P, σ, ρ, A, d, ok, vd, out⟩ := h
  unfold fBlt at out
  cases d with
  | list ds =>
    obtain ⟨a, vs, rfl, h1, h2⟩ := vd
    exact call_tuple_of pins s σ0 H _ us Q I rs ⟨a, vs, rfl, .inl ⟨.inl h1, fun p hp => out.tup ok hp h2⟩⟩
  | tuple ds =>
    obtain ⟨a, vs, rfl, h0, h1, h2⟩ := vw_tup ok.sub vd
    refine call_tuple_of pins s σ0 H _ us Q I rs ⟨a, vs, rfl, .inr ⟨.of h1, out.val ok ?_⟩⟩
    rw [RD]
    exact ⟨a, vs, rfl, h0, h2⟩
  | _ => exact out.elim
theorem cr_int : CallR X (.type "int") (rB1 Wx (fBlt .int)) := by
  intro pins s σ0 H xs us Q I rs h
  obtain ⟨x, rfl, P, σ, ρ, A, d, ok, vd, out⟩ := h
  unfold fBlt at out
  cases d with
  | int i =>
    have e := vw_int vd
    subst e
    exact call_int1 pins s σ0 H _ us Q I rs (.inl ⟨i, rfl, out.int ok⟩)
  | bool i =>
    have e := vw_bool vd
    subst e
    exact call_int1 pins s σ0 H _ us Q I rs (.inr ⟨i, rfl, out.int ok⟩)
  | _ => exact out.elim
theorem cr_str : CallR X (.type "str") (rB1 Wx (fBlt .str)) := by
  intro pins s σ0 H xs us Q I rs h
  obtain ⟨x, rfl, P, σ, ρ, A, d, ok, vd, out⟩ := h
  unfold fBlt at out
  cases d with
  | int i =>
    have e := vw_int vd
    subst e
    have out : Out Wx RA σ P H A (rO (if i.natAbs.log2 < 1920 then some (.val (.str (Str.ofString (toString i)))) else none) ρ) Q := out
    split at out
    case isFalse => exact out.elim
    rename_i hz
    exact call_str_int pins s σ0 H _ us Q I rs ⟨i, rfl, hz, out.val ok rd_str⟩
  | _ => exact out.elim
theorem cr_all' (hc : X.calm = true) : CallR X (.builtin "all") (rB1 Wx (fBlt .all)) := by
  intro pins s σ0 H xs us Q I rs h
  obtain ⟨x, rfl, P, σ, ρ, A, d, ok, vd, out⟩ := h
  unfold fBlt at out
  cases d with
  | list ds =>
    obtain ⟨a, vs, rfl, h1, h2⟩ := vd
    simp only [bltD] at out
    cases hb : boolsOf ds with
    | none => rw [hb] at out; exact out.elim
    | some bs =>
      rw [hb] at out
      have e := h2.bools hb
      subst e
      exact L2.cr_all hc pins s σ0 H _ us Q I rs ⟨a, bs, rfl, .inl h1, out.bool ok⟩
  | _ => exact out.elim
theorem cr_any' (hc : X.calm = true) : CallR X (.builtin "any") (rB1 Wx (fBlt .any)) := by
  intro pins s σ0 H xs us Q I rs h
  obtain ⟨x, rfl, P, σ, ρ, A, d, ok, vd, out⟩ := h
  unfold fBlt at out
  cases d with
  | list ds =>
    obtain ⟨a, vs, rfl, h1, h2⟩ := vd
    simp only [bltD] at out
    cases hb : boolsOf ds with
    | none => rw [hb] at out; exact out.elim
    | some bs =>
      rw [hb] at out
      have e := h2.bools hb
      subst e
      exact L2.cr_any hc pins s σ0 H _ us Q I rs ⟨a, bs, rfl, .inl h1, out.bool ok⟩
  | _ => exact out.elim

/-! ### isinstance -/
theorem vw_ty {K : PySem.W.Frag} {P H : Hp} (sub : ∀ a o, P a = some o → H a = some o) {d : D} {v : V} (h : Vw P H d v) (nf : ∀ (a : Addr) (o : Obj) ts, v = .ref a → H a ≠ some (.frz o (.dT ts))) : TyX K H v (.type (tyName d)) := by
  cases d with
  | none => rw [vw_none h]; exact .base .non
  | bool b => rw [vw_bool h]; exact .base (.bl b)
  | int b => rw [vw_int h]; exact .base (.int b)
  | str b => rw [vw_str h]; exact .base (.str b)
  | list ds =>
    obtain ⟨a, vs, rfl, h1 | ⟨o, h1⟩, _⟩ := h
    · exact .base (.lst h1)
    · exact .base (.frz h1)
  | tuple ds =>
    obtain ⟨a, vs, rfl, _, h1, _⟩ := vw_tup sub h
    exact .base (.tup h1)
  | dict kvs =>
    obtain ⟨a, rfl, ⟨ks, h1 | ⟨o, h1⟩, h2⟩ | ⟨ts, h1 | ⟨o, h1⟩, h2⟩⟩ := h
    · exact .base (.dK h1)
    · exact .fDict h1
    · exact .base (.dT h1)
    · exact absurd h1 (nf a o ts rfl)
theorem kit_isi1 {K : PySem.W.Frag} : ∀ (d : D) (t : String), t ∈ ["str", "int", "bool", "tuple", "list", "dict"] → PySem.W.kitOne K (.type (tyName d)) (.type t) = some (isi1 d t) := by
  intro d t ht
  have key : ∀ n ∈ ["NoneType", "bool", "int", "str", "list", "tuple", "dict"], ∀ t ∈ ["str", "int", "bool", "tuple", "list", "dict"], kitB n t = some (n == t || (n == "bool" && t == "int")) := by decide +kernel
  exact kit_ty (key (tyName d) (by cases d <;> simp [tyName]) t ht)
end
end SW

set_option Elab.async false
set_option linter.all false
set_option maxRecDepth 100000
set_option maxHeartbeats 2000000
/-! a program's own text as terms -/
namespace SW
open PySem L2

structure Cfg where
  N : List Str
  sc : Scope
  fn : Str → Option (Nat × Nat)
  con : List (Str × D)
  free : List Str
  exc : List Str := []
def plainN (x : Str) : Bool := !(x == ("__debug__" : Str)) && !(x == ("__classdict__" : Str)) && !(x == ("__name__" : Str))
def isVis (sc : Scope) (x : Str) : Bool := match sc.names.lookup x with
  | some .local => true
  | some .cell => true
  | some .free => true
  | _ => false
def isGl (c : Cfg) (x : Str) : Bool := (match c.sc.names.lookup x with
  | some .globalImplicit => true
  | _ => false) && plainN x
def slotNo (N : List Str) (x : Str) : Nat := N.findIdx fun y => decide (y = x)
def cVar (c : Cfg) (x : Str) : Option Nat := if isVis c.sc x && plainN x && decide (slotNo c.N x < c.N.length) then some (slotNo c.N x) else none
def cName (c : Cfg) (x : Str) : ME := match cVar c x with
  | some i => .var i
  | none => if isGl c x = true then (match c.con.lookup x with
    | some d => .lit d
    | none => .bad) else .bad
def cConst : Const → ME
  | .none => .lit .none
  | .bool b => .lit (.bool b)
  | .int i => .lit (.int i)
  | .str x => .lit (.str x)
  | _ => .bad
def noStar : List Expr → Bool
  | [] => true
  | .Starred _ _ :: _ => false
  | _ :: es => noStar es
def isSlice : Expr → Bool
  | .Slice .. => true
  | _ => false
def isSet : Expr → Bool
  | .Set .. => true
  | _ => false
def isComp : Expr → Bool
  | .ListComp .. => true
  | .SetComp .. => true
  | .DictComp .. => true
  | _ => false
def plainBase : Expr → Bool
  | .Call (.Name _ _) [] [] _ => false
  | _ => true
def tyNames : List (Str × String) := [("str", "str"), ("int", "int"), ("bool", "bool"), ("tuple", "tuple"), ("list", "list"), ("dict", "dict")]
def tyOf (c : Cfg) : Expr → Option String
  | .Name x _ => if isGl c x && c.free.contains x then tyNames.lookup x else none
  | _ => none
def tysOf (c : Cfg) : List Expr → Option (List String)
  | [] => some []
  | e :: es => match tyOf c e, tysOf c es with
    | some t, some ts => some (t :: ts)
    | _, _ => none
def bltNames : List (Str × Blt) := [("len", .len), ("list", .list), ("tuple", .tuple), ("int", .int), ("all", .all), ("any", .any), ("dict", .dict), ("sorted", .sorted), ("str", .str)]
def cIsi (c : Cfg) (a : ME) : Expr → ME
  | .Tuple es _ _ => match tysOf c es with
    | some ts => if noStar es && decide (es.length ≤ 10) then .isi a ts true else .bad
    | none => .bad
  | e => match tyOf c e with
    | some t => .isi a [t] false
    | none => .bad
def mthNames : List (Str × Nat × Mth) := [("get", 1, .get1), ("get", 2, .get2), ("join", 1, .join), ("upper", 0, .upper)]
def mthOf (m : Str) (n : Nat) : Option Mth := (mthNames.find? fun p => decide (p.1 = m) && decide (p.2.1 = n)).map (·.2.2)
def mutNames : List (Str × Nat × Mut) := [("append", 1, .append), ("pop", 0, .pop0), ("pop", 1, .popAt)]
def mutOf (m : Str) (n : Nat) : Option Mut := (mutNames.find? fun p => decide (p.1 = m) && decide (p.2.1 = n)).map (·.2.2)
def varOf : ME → Option Nat
  | .var i => some i
  | _ => none
def nameVar (c : Cfg) : Expr → Option Nat
  | .Name x _ => cVar c x
  | _ => none
def cMeth (m : Str) (v : Option Nat) (o : ME) (args : List ME) : ME := match mutOf m args.length, v with
  | some u, some i => .mut u i args
  | _, _ => match mthOf m args.length with
    | some u => .mth u o args
    | none => .bad
def foldAnd : List ME → ME
  | [] => .bad
  | [e] => e
  | e :: es => .andE e (foldAnd es)
def foldOr : List ME → ME
  | [] => .bad
  | [e] => e
  | e :: es => .orE e (foldOr es)
/-- a comprehension's own names with their places -/
def ownNames (c : Cfg) (scope : Scope) : Expr → Option (List (Str × Nat))
  | .Name x _ => if plainN x && (match scope.names.lookup x with
    | some .local => true
    | some .cell => true
    | _ => false) && decide (slotNo c.N x < c.N.length) then some [(x, slotNo c.N x)] else none
  | _ => none
def ownsNames (c : Cfg) (scope : Scope) : List Expr → Option (List (Str × Nat))
  | [] => some []
  | e :: es => match ownNames c scope e, ownsNames c scope es with
    | some p, some q => some (p ++ q)
    | _, _ => none
def ownTarget (c : Cfg) (scope : Scope) : Expr → Option (MT × List (Str × Nat))
  | .Name x p => (ownNames c scope (.Name x p)).map fun o => (.name (slotNo c.N x), o)
  | .Tuple es _ _ => (ownsNames c scope es).bind fun o => if (o.map (·.2)).Nodup then some (.tup (o.map (·.2)), o) else none
  | _ => none
/-- what is walked, with the way of it -/
def rngArgs (c : Cfg) : Expr → Option (List Expr)
  | .Call (.Name x _) args [] _ => if decide (x = ("range" : Str)) && isGl c x && c.free.contains x && noStar args && (decide (args.length = 1) || decide (args.length = 2)) then some args else none
  | _ => none
def isNameE : Expr → Bool
  | .Name .. => true
  | _ => false

/-- sorted(set(e)) -/
def srtSetOf (c : Cfg) (f : Str) : List Expr → Option Expr
  | [.Call (.Name g _) [e] [] _] => if decide (f = ("sorted" : Str)) && decide (g = ("set" : Str)) && isGl c f && isGl c g && c.free.contains f && c.free.contains g && noStar [e] then some e else none
  | _ => none
/-- list(e.items()) -/
def itmsOf (c : Cfg) (f : Str) : List Expr → Option Expr
  | [.Call (.Attribute e m apos) [] [] cpos] => if decide (f = ("list" : Str)) && decide (m = ("items" : Str)) && isGl c f && c.free.contains f && plainBase e && (apos.endLine == cpos.line) then some e else none
  | _ => none
def isRev : Option Expr → Option Expr → Option Expr → Bool
  | none, none, some (.UnaryOp .USub (.Constant (.int 1) _ _) _) => true
  | _, _, _ => false
def litKeys : List (Option Expr) → Option (List D)
  | [] => some []
  | some (.Constant (.int i) _ _) :: r => (litKeys r).map (.int i :: ·)
  | some (.Constant (.str x) _ _) :: r => (litKeys r).map (.str x :: ·)
  | _ => none
def compE : Nat → Cfg → Expr → ME
  | 0, _, _ => .bad
  | n + 1, c, .Name x _ => cName c x
  | n + 1, c, .Constant k _ _ => cConst k
  | n + 1, c, .BinOp a op b _ => .bin op (compE n c a) (compE n c b)
  | n + 1, c, .UnaryOp .Not a _ => .notE (compE n c a)
  | n + 1, c, .UnaryOp .USub a _ => .neg (compE n c a)
  | n + 1, c, .BoolOp .And es _ => foldAnd (es.map (compE n c))
  | n + 1, c, .BoolOp .Or es _ => foldOr (es.map (compE n c))
  | n + 1, c, .IfExp t a b _ => .ifE (compE n c t) (compE n c a) (compE n c b)
  | n + 1, c, .Compare a [op] [b] _ => if isSet b = true then .bad else .cmp op (compE n c a) (compE n c b)
  | n + 1, c, .Compare a [op1, op2] [b, d] _ => if isSet d = true then .bad else .chn op1 op2 (compE n c a) (compE n c b) (compE n c d)
  | n + 1, c, .Tuple es _ _ => if noStar es && decide (es.length ≤ 1000) then .tupE (es.map (compE n c)) else .bad
  | n + 1, c, .List es _ => if noStar es && decide (es.length ≤ 1000) then .lstE (es.map (compE n c)) else .bad
  | n + 1, c, .Dict keys values _ => match litKeys keys with
    | some ks => if decide (values.length = keys.length) && decide (keys.length ≤ 15) then .dctE ks (values.map (compE n c)) else .bad
    | none => match keys, values with
      | [some a], [b] => .dct1 (compE n c a) (compE n c b)
      | _, _ => .bad
  | n + 1, c, .Subscript a (.Slice lo hi .none _) _ => .slc (compE n c a) (lo.map (compE n c)) (hi.map (compE n c))
  | n + 1, c, .Subscript a (.Slice lo hi (.some st) _) _ => if isRev lo hi (.some st) = true then .un .rev (compE n c a) else .bad
  | n + 1, c, .Subscript a b _ => if isSlice b = true then .bad else .idx (compE n c a) (compE n c b)
  | n + 1, c, .Call (.Name f _) args [] _ =>
    match srtSetOf c f args, itmsOf c f args with
    | some e, _ => .un .srtSet (compE n c e)
    | none, some e => .un .itms (compE n c e)
    | none, none =>
    if isGl c f && noStar args then
      (match c.fn f with
        | some (np, nd) => if decide (args.length ≤ np) && decide (np ≤ args.length + nd) && decide (args ≠ []) then .call f (args.map (compE n c)) else .bad
        | none => if c.free.contains f = true then
          (match args with
            | [a] => (match bltNames.lookup f with
              | some b => .blt b (compE n c a)
              | none => .bad)
            | [a, t] => if f = ("isinstance" : Str) then cIsi c (compE n c a) t else if f = ("min" : Str) then .mn false (compE n c a) (compE n c t) else if f = ("max" : Str) then .mn true (compE n c a) (compE n c t) else .bad
            | _ => .bad)
          else .bad)
    else .bad
  | n + 1, c, .Call (.Attribute o m apos) args [] pos =>
    if apos.endLine == pos.line && noStar args && decide (args.length ≤ 3) && plainBase o then cMeth m (nameVar c o) (compE n c o) (args.map (compE n c)) else .bad
  | n + 1, c, .ListComp elt [⟨tg, it, ifs, 0⟩] scope _ =>
    match ownTarget c scope tg with
    | some (t, own) =>
      let c' : Cfg := { c with sc := relS scope c.sc }
      if blkC c.N c.sc scope own && !isSet it && decide (ifs.length ≤ 1) then
        (match rngArgs c it with
          | some args => .lc t true (args.map (compE n c)) (ifs.head?.map (compE n c')) (compE n c' elt)
          | none => .lc t false [compE n c it] (ifs.head?.map (compE n c')) (compE n c' elt))
      else .bad
    | none => .bad
  | n + 1, c, .DictComp kx vx [⟨tg, it, ifs, 0⟩] scope _ =>
    match ownTarget c scope tg with
    | some (t, own) =>
      let c' : Cfg := { c with sc := relS scope c.sc }
      if blkC c.N c.sc scope own && !isSet it && decide (ifs.length ≤ 1) then
        (match rngArgs c it with
          | some args => .dcm t true (args.map (compE n c)) (ifs.head?.map (compE n c')) (compE n c' kx) (compE n c' vx)
          | none => .dcm t false [compE n c it] (ifs.head?.map (compE n c')) (compE n c' kx) (compE n c' vx))
      else .bad
    | none => .bad
  | _ + 1, _, _ => .bad

/-! ### statements -/
def isLoc (c : Cfg) (x : Str) : Bool := match c.sc.names.lookup x with
  | some .local => true
  | some .cell => true
  | _ => false
def cTg1 (c : Cfg) : Expr → Option Nat
  | .Name x _ => if isLoc c x && plainN x && decide (slotNo c.N x < c.N.length) then some (slotNo c.N x) else none
  | _ => none
def cTgs (c : Cfg) : List Expr → Option (List Nat)
  | [] => some []
  | e :: es => match cTg1 c e, cTgs c es with
    | some i, some is => some (i :: is)
    | _, _ => none
def cTarget (c : Cfg) : Expr → Option MT
  | .Name x p => (cTg1 c (.Name x p)).map .name
  | .Tuple es _ _ => (cTgs c es).bind fun is => if noStar es && is.Nodup then some (.tup is) else none
  | _ => none
/-- a new list stored at once in a local name of the same line -/
def swapsB (c : Cfg) (x : Str) (p : Pos) : Expr → Bool
  | .ListComp _ _ scope q => (match c.sc.names.lookup x with
    | some .local => true
    | _ => false) && (p.line == q.line) && !(scope.names.any fun (n, k) => n == x && (k == .local || k == .cell))
  | _ => false
/-- two or three local names of one line, the values no constants alone -/
def locName (c : Cfg) (line : Nat) : Expr → Bool
  | .Name x p => (match c.sc.names.lookup x with
    | some .local => true
    | _ => false) && p.line == line
  | _ => false
def anyLoc (c : Cfg) (ts : List Expr) : Bool := ts.all (locName c ((ts.head?.map (·.pos.line)).getD 0))
def isFun : ScopeKind → Bool
  | .function => true
  | _ => false
/-- a, b = e, e' -/
def cPar (c : Cfg) : List Expr → List Expr → Option (Nat × Nat × Expr × Expr)
  | [.Name x p, .Name y q], [a, b] => match cTg1 c (.Name x p), cTg1 c (.Name y q) with
    | some i, some j => if decide (x ≠ y) && locName c p.line (.Name x p) && locName c p.line (.Name y q) && isFun c.sc.kind && !([a, b].all (foldedForSure 8)) && !([a, b].all (constantsAlone 8)) then some (i, j, a, b) else none
    | _, _ => none
  | _, _ => none

/-- except C as x: return (w, x.at) -/
def cHdl (c : Cfg) (i : Nat) : ExceptHandler → Option (Str × Str)
  | .ExceptHandler (some (.Name C _)) (some x) [.Return (some (.Tuple [.Constant (.str w) _ _, .Attribute (.Name y _) a _] _ _)) _] _ =>
    if isGl c C && (c.exc.contains C || (decide (C = ("SealError" : Str)) && !c.exc.isEmpty)) && decide (x = y) && decide (a = ("at" : Str)) && decide (cTg1 c (.Name x default) = some i) && (c.sc.names.lookup x == some .local) then some (C, w) else none
  | _ => none
/-- 'w' if isinstance(x, C) else .. -/
def cWord (c : Cfg) (x : Str) : Nat → Expr → Option (List (Str × Str) × Str)
  | _, .Constant (.str w) _ _ => some ([], w)
  | n + 1, .IfExp (.Call (.Name f _) [.Name y _, .Name C _] [] _) (.Constant (.str w) _ _) e _ => if decide (f = ("isinstance" : Str)) && isGl c f && c.free.contains f && decide (x = y) && isGl c C && (c.exc.contains C || (decide (C = ("SealError" : Str)) && !c.exc.isEmpty)) then (cWord c x n e).map fun p => ((C, w) :: p.1, p.2) else none
  | _, _ => none
/-- except SealError as x: return ('w' if isinstance(x, C) else .., x.at) -/
def cHdlI (c : Cfg) (i : Nat) : ExceptHandler → Option (List (Str × Str))
  | .ExceptHandler (some (.Name C _)) (some x) [.Return (some (.Tuple [e, .Attribute (.Name y _) a _] _ _)) _] _ =>
    if isGl c C && decide (C = ("SealError" : Str)) && !c.exc.isEmpty && decide (x = y) && decide (a = ("at" : Str)) && decide (cTg1 c (.Name x default) = some i) && (c.sc.names.lookup x == some .local) then (cWord c x 9 e).map fun p => p.1 ++ [(C, p.2)] else none
  | _ => none
def cHdls (c : Cfg) (i : Nat) : List ExceptHandler → Option (List (Str × Str))
  | [] => some []
  | h :: hs => match cHdl c i h, cHdls c i hs with
    | some p, some q => some (p :: q)
    | _, _ => none
/-- the name of the first clause -/
def hdlSlot (c : Cfg) : List ExceptHandler → Option Nat
  | .ExceptHandler _ (some x) _ _ :: _ => cTg1 c (.Name x default)
  | _ => none
def cRaise (c : Cfg) : Option Expr → Option (Str × Expr)
  | some (.Call (.Name C _) [e] [] _) => if isGl c C && c.exc.contains C && noStar [e] then some (C, e) else none
  | _ => none
def cTry (c : Cfg) : List Stmt → List ExceptHandler → Option (Expr × List (Str × Str))
  | [.Return (some e) _], hs => (match hdlSlot c hs with
    | some i => (match cHdls c i hs with
      | some hs' => some (e, hs')
      | none => (match hs with
        | [h] => (cHdlI c i h).map fun hs' => (e, hs')
        | _ => none))
    | none => none)
  | _, _ => none
def compS : Nat → Cfg → Stmt → MS
  | 0, _, _ => .bad
  | n + 1, c, .Raise x none _ => match cRaise c x with
    | some p => .rz p.1 (compE n c p.2)
    | none => .bad
  | n + 1, c, .Try b hs [] [] _ => match cTry c b hs with
    | some p => .tryS (compE n c p.1) p.2
    | none => .bad
  | n + 1, c, .Expr (.Constant (.str _) _ _) _ => .pass
  | n + 1, c, .Expr e _ => if isComp e = true then .bad else .expr (compE n c e)
  | n + 1, c, .Pass _ => .pass
  | n + 1, c, .Break _ => .brk
  | n + 1, c, .Continue _ => .cnt
  | n + 1, c, .Return none _ => .retN
  | n + 1, c, .Return (some e) _ => .ret (compE n c e)
  | n + 1, c, .If t a b _ => .ifS (compE n c t) (a.map (compS n c)) (b.map (compS n c))
  | n + 1, c, .While t b [] _ => .whl (compE n c t) (b.map (compS n c))
  | n + 1, c, .For tg it b [] _ =>
    if isSet it = true then .bad else
    match cTarget c tg with
    | some t => (match rngArgs c it with
      | some args => .forS t true (args.map (compE n c)) (b.map (compS n c))
      | none => .forS t false [compE n c it] (b.map (compS n c)))
    | none => .bad
  | n + 1, c, .AugAssign (.Name x p) .Add e _ => match cTg1 c (.Name x p) with
    | some i => .aug i .Add (compE n c e)
    | none => .bad
  | n + 1, c, .AugAssign (.Name x p) .Sub e _ => match cTg1 c (.Name x p) with
    | some i => .aug i .Sub (compE n c e)
    | none => .bad
  | n + 1, c, .Assign [.Name x p] e _ => match cTg1 c (.Name x p) with
    | some i => .asg (.name i) (compE n c e)
    | none => .bad
  | n + 1, c, .Assign [.Subscript (.Name x _) k _] e _ => match cVar c x with
    | some i => if isComp e || isSlice k then .bad else .sub i (compE n c k) (compE n c e)
    | none => .bad
  | n + 1, c, .Assign [.Tuple ts _ _] (.Tuple es _ _) _ =>
    if noStar ts && noStar es && decide (ts.length = es.length) && decide (es.length ≤ 3) then
      (match cTgs c ts with
        | some _ => (match cPar c ts es with
          | some p => .par p.1 p.2.1 (compE n c p.2.2.1) (compE n c p.2.2.2)
          | none => .bad)
        | none => (match ts, es with
          | [.Subscript (.Name x _) k1 _, .Subscript (.Name y _) k2 _], [e1, e2] => (match cVar c x with
            | some i => if x = y && !isSlice k1 && !isSlice k2 then .swp i (compE n c k1) (compE n c k2) (compE n c e1) (compE n c e2) else .bad
            | none => .bad)
          | _, _ => .bad))
    else .bad
  | n + 1, c, .Assign [.Tuple ts k p] e _ => if isComp e = true then .bad else match cTarget c (.Tuple ts k p) with
    | some t => .asg t (compE n c e)
    | none => .bad
  | _ + 1, _, _ => .bad
end SW

set_option Elab.async false
set_option linter.all false
set_option maxRecDepth 100000
set_option maxHeartbeats 2000000
/-! the frames' readings -/
namespace SW
open PySem PySem.Spec L2
open PyProof.Rows hiding St
section
variable {Wx : Wish} {σ : St} {H : Hp} {Q : VK}

theorem New.of {A A' B : List Addr} {H : Hp} (h : New A H (A' ++ B)) {C : List Addr} (s : ∀ a ∈ C, a ∈ A') : New A H C := fun a ha => h a (List.mem_append_left _ (s a ha))
theorem step_frz {P H P1 H1 : Hp} {A A1 B1 : List Addr} {ρ1 ρ' : Rho} {x : SW.A} {v1 : V} {d : D} (x1 : Ext A P H P1 H1) (o1 : Ok P1 H1 σ ρ1 A1) (r1 : RA P1 H1 σ ρ1 B1 x v1) (d1 : (A1 ++ B1).Nodup) (n1 : New A H (A1 ++ B1)) (e : frz x ρ1 = some (d, ρ')) :
    ∃ P' A', Ext A P H P' H1 ∧ Ok P' H1 σ ρ' A' ∧ RD P' d v1 ∧ New A H A' := by
  obtain ⟨P', A', y, o', q, s, k⟩ := frz_ok o1 r1 d1 e
  exact ⟨P', A', x1.trans y n1, o', q, n1.of s⟩

/-- one operand that is read -/
theorem im_look {α β : Type} {L : Rel α β} {f : D → Rho → R α} {g : Rho → R SW.A} {Q : β → Hp → Prop} {Q1 : VK} (h : tG Wx L (fun ρ => kLook f (g ρ)) σ H Q)
    (k : ∀ P1 H1 ρ1 A1 d v, Ok P1 H1 σ ρ1 A1 → Vw P1 H1 d v → Out Wx L σ P1 H1 A1 (f d ρ1) Q → Q1 v H1) : tE Wx g σ H Q1 := by
  obtain ⟨P, ρ, A, ok, out⟩ := h
  dsimp only at out
  refine ⟨P, ρ, A, ok, ?_⟩
  cases e : g ρ with
  | bad => rw [e] at out; exact out.elim
  | exc ex ρ1 => rw [e] at out; exact out
  | ok x ρ1 =>
    rw [e] at out
    intro P1 H1 A1 B1 v x1 o1 r1 d1 n1
    cases l : look x ρ1 with
    | none => simp only [kLook, l] at out; exact out.elim
    | some d =>
      simp only [kLook, l] at out
      exact k P1 H1 ρ1 A1 d v o1 (o1.vw r1 l) (out.shift x1 n1.left)
/-- one operand that is taken for good -/
theorem im_frz {α β : Type} {L : Rel α β} {f : D → Rho → R α} {g : Rho → R SW.A} {Q : β → Hp → Prop} {Q1 : VK} (h : tG Wx L (fun ρ => kFrz f (g ρ)) σ H Q)
    (k : ∀ P1 H1 ρ1 A1 d v, Ok P1 H1 σ ρ1 A1 → RD P1 d v → Out Wx L σ P1 H1 A1 (f d ρ1) Q → Q1 v H1) : tE Wx g σ H Q1 := by
  obtain ⟨P, ρ, A, ok, out⟩ := h
  dsimp only at out
  refine ⟨P, ρ, A, ok, ?_⟩
  cases e : g ρ with
  | bad => rw [e] at out; exact out.elim
  | exc ex ρ1 => rw [e] at out; exact out
  | ok x ρ1 =>
    rw [e] at out
    intro P1 H1 A1 B1 v x1 o1 r1 d1 n1
    cases l : frz x ρ1 with
    | none => simp only [kFrz, l] at out; exact out.elim
    | some p =>
      obtain ⟨d, ρ'⟩ := p
      simp only [kFrz, l] at out
      obtain ⟨P', A', x', o', q, n'⟩ := step_frz x1 o1 r1 d1 n1 l
      exact k P' H1 ρ' A' d v o' q (out.shift x' n')
/-- two operands -/
theorem im_bin {f : D → D → Rho → R SW.A} {ga gb : Rho → R SW.A} (h : tE Wx (fun ρ => kBin1 f gb (ga ρ)) σ H Q) : tOp (rD2 Wx f) (tE Wx ga) (tE Wx gb) σ H Q := by
  obtain ⟨P, ρ, A, ok, out⟩ := h
  dsimp only at out
  refine ⟨P, ρ, A, ok, ?_⟩
  cases e : ga ρ with
  | bad => rw [e] at out; exact out.elim
  | exc ex ρ1 => rw [e] at out; exact out
  | ok x ρ1 =>
    rw [e] at out
    intro P1 H1 A1 B1 v1 x1 o1 r1 d1 n1
    refine ⟨P1, ρ1, A1, o1, ?_⟩
    have out : Out Wx RA σ P H A (kBin2 f x (gb ρ1)) Q := out
    cases e2 : gb ρ1 with
    | bad => rw [e2] at out; exact out.elim
    | exc ex ρ2 => rw [e2] at out; exact Out.shift (L := RA) (r := (.exc ex ρ2 : R SW.A)) (Q := Q) out x1 n1.left
    | ok y ρ2 =>
      rw [e2] at out
      intro P2 H2 A2 B2 v2 x2 o2 r2 d2 n2
      have r1' := r1.ext (ρ' := ρ2) x2 (apart d1)
      cases l1 : look x ρ2 with
      | none => simp only [kBin2, l1] at out; exact out.elim
      | some d =>
        cases l2 : look y ρ2 with
        | none => simp only [kBin2, l1, l2] at out; exact out.elim
        | some e' =>
          simp only [kBin2, l1, l2] at out
          exact ⟨P2, σ, ρ2, A2, d, e', o2, o2.vw r1' l1, o2.vw r2 l2, out.shift (x1.trans x2 n1.left) (n1.left.trans n2.left x1.there)⟩
/-- a chain of two comparisons -/
theorem im_chn {op1 op2 : CmpOp} {ga gb gc : Rho → R SW.A} (h : tE Wx (fun ρ => kChn1 op1 op2 gb gc (ga ρ)) σ H Q) : tChain (rD2 Wx (fCmp op1)) (rD2 Wx (fCmp op2)) (tE Wx ga) (tE Wx gb) (tE Wx gc) σ H Q := by
  obtain ⟨P, ρ, A, ok, out⟩ := h
  dsimp only at out
  refine ⟨P, ρ, A, ok, ?_⟩
  cases e : ga ρ with
  | bad => rw [e] at out; exact out.elim
  | exc ex ρ1 => rw [e] at out; exact out
  | ok x ρ1 =>
    rw [e] at out
    intro P1 H1 A1 B1 v1 x1 o1 r1 d1 n1
    refine ⟨P1, ρ1, A1, o1, ?_⟩
    have out : Out Wx RA σ P H A (kChn2 op1 op2 gc x (gb ρ1)) Q := out
    cases e2 : gb ρ1 with
    | bad => rw [e2] at out; exact out.elim
    | exc ex ρ2 => rw [e2] at out; exact Out.shift (L := RA) (r := (.exc ex ρ2 : R SW.A)) (Q := Q) out x1 n1.left
    | ok y ρ2 =>
      rw [e2] at out
      intro P2 H2 A2 B2 v2 x2 o2 r2 d2 n2
      have r1' := r1.ext (ρ' := ρ2) x2 (apart d1)
      have x02 := x1.trans x2 n1.left
      have n02 := n1.left.trans n2.left x1.there
      cases l1 : look x ρ2 with
      | none => simp only [kChn2, l1] at out; exact out.elim
      | some d =>
        cases l2 : look y ρ2 with
        | none => simp only [kChn2, l1, l2] at out; exact out.elim
        | some e' =>
          cases hc : cmpD op1 d e' with
          | none => simp only [kChn2, l1, l2, hc] at out; exact out.elim
          | some b =>
            refine ⟨P2, σ, ρ2, A2, d, e', o2, o2.vw r1' l1, o2.vw r2 l2, ?_⟩
            unfold fCmp
            rw [hc]
            intro P3 H3 A3 B3 v3 x3 o3 r3 d3 n3
            have e3 : v3 = .bl b := by
              have := r3.2
              rw [RD] at this
              exact this
            refine ⟨b, e3, ?_⟩
            cases b with
            | false =>
              simp only [kChn2, l1, l2, hc] at out
              rw [if_neg Bool.false_ne_true]
              exact (out.shift (x02.trans x3 n02) (n02.trans n3.left x02.there)).bool o3
            | true =>
              simp only [kChn2, l1, l2, hc] at out
              rw [if_pos rfl]
              refine ⟨P3, ρ2, A3, o3, ?_⟩
              cases e4 : gc ρ2 with
              | bad => rw [e4] at out; exact out.elim
              | exc ex ρ4 => rw [e4] at out; exact Out.shift (L := RA) (r := (.exc ex ρ4 : R SW.A)) (Q := Q) out (x02.trans x3 n02) (n02.trans n3.left x02.there)
              | ok z ρ4 =>
                rw [e4] at out
                intro P4 H4 A4 B4 v4 x4 o4 r4 d4 n4
                have x03 := x02.trans x3 n02
                have n03 := n02.trans n3.left x02.there
                have d3' : ∀ a ∈ B2, a ∉ A3 := fun a ha hq => by
                  rcases n3.left a hq with w | w
                  · exact apart d2 a ha w
                  · exact (r2.there a ha).2 w
                have r2' := (r2.ext (ρ' := ρ4) x3 (apart d2)).ext (ρ' := ρ4) x4 d3'
                cases l3 : look y ρ4 with
                | none => simp only [kBin2, l3] at out; exact out.elim
                | some e5 =>
                  cases l4 : look z ρ4 with
                  | none => simp only [kBin2, l3, l4] at out; exact out.elim
                  | some e6 =>
                    simp only [kBin2, l3, l4] at out
                    exact ⟨P4, σ, ρ4, A4, e5, e6, o4, o4.vw r2' l3, o4.vw r4 l4, out.shift (x03.trans x4 n03) (n03.trans n4.left x03.there)⟩
/-- a test, then one of two ways -/
theorem im_tst {α β : Type} {L : Rel α β} {y n : Rho → R α} {g : Rho → R SW.A} {Q : β → Hp → Prop} {Q1 : VK} (h : tG Wx L (fun ρ => kTst y n (g ρ)) σ H Q)
    (k : ∀ H1 (b : Bool), (b = true → tG Wx L y σ H1 Q) → (b = false → tG Wx L n σ H1 Q) → Q1 (.bl b) H1) : tE Wx g σ H Q1 := by
  obtain ⟨P, ρ, A, ok, out⟩ := h
  dsimp only at out
  refine ⟨P, ρ, A, ok, ?_⟩
  cases e : g ρ with
  | bad => rw [e] at out; exact out.elim
  | exc ex ρ1 => rw [e] at out; exact out
  | ok x ρ1 =>
    rw [e] at out
    intro P1 H1 A1 B1 v x1 o1 r1 d1 n1
    cases l : look x ρ1 with
    | none => simp only [kTst, l] at out; exact out.elim
    | some d =>
      have vd := o1.vw r1 l
      cases d with
      | bool b =>
        have e1 := vw_bool vd
        subst e1
        refine k H1 b (fun hb => ?_) fun hb => ?_
        · subst hb
          simp only [kTst, l] at out
          exact ⟨P1, ρ1, A1, o1, out.shift x1 n1.left⟩
        · subst hb
          simp only [kTst, l] at out
          exact ⟨P1, ρ1, A1, o1, out.shift x1 n1.left⟩
      | _ => simp only [kTst, l] at out; exact out.elim
/-- several values for good -/
theorem im_vals {g : Rho → R SW.A} {gs : Rho → R (List D)} {Q : List V → Hp → Prop} (h : tVs Wx (fun ρ => kFrz (kVals1 gs) (g ρ)) σ H Q) : tCons (tE Wx g) (tVs Wx gs) σ H Q := by
  refine im_frz h fun P1 H1 ρ1 A1 d v o1 rd out => ?_
  refine ⟨P1, ρ1, A1, o1, ?_⟩
  have out : Out Wx RVs σ P1 H1 A1 (kVals2 d (gs ρ1)) Q := out
  cases e2 : gs ρ1 with
  | bad => rw [e2] at out; exact out.elim
  | exc ex ρ2 => rw [e2] at out; exact out
  | ok ds ρ2 =>
    rw [e2] at out
    intro P2 H2 A2 B2 v2 x2 o2 r2 d2 n2
    obtain ⟨rfl, r2⟩ := r2
    exact out P2 H2 A2 [] (v :: v2) x2 o2 ⟨rfl, .cons (RD.keep x2.keep d v rd) r2⟩ d2 n2
theorem im_nil {Q : List V → Hp → Prop} (h : tVs Wx (fun ρ => .ok [] ρ) σ H Q) : tNil σ H Q := by
  obtain ⟨P, ρ, A, ok, out⟩ := h
  dsimp only at out
  exact out.here ok ⟨rfl, .nil⟩
/-- what comes behind several values -/
theorem im_then {α β : Type} {L : Rel α β} {f : R (List D) → R α} {gs : Rho → R (List D)} {Q : β → Hp → Prop} {Q1 : List V → Hp → Prop} (h : tG Wx L (fun ρ => f (gs ρ)) σ H Q)
    (hb : f .bad = .bad) (he : ∀ e ρ, f (.exc e ρ) = .exc e ρ)
    (k : ∀ P1 H1 ρ1 A1 ds vs, Ok P1 H1 σ ρ1 A1 → RDs P1 ds vs → Out Wx L σ P1 H1 A1 (f (.ok ds ρ1)) Q → Q1 vs H1) : tVs Wx gs σ H Q1 := by
  obtain ⟨P, ρ, A, ok, out⟩ := h
  dsimp only at out
  refine ⟨P, ρ, A, ok, ?_⟩
  cases e : gs ρ with
  | bad => rw [e, hb] at out; exact out.elim
  | exc ex ρ1 => rw [e, he] at out; exact out
  | ok ds ρ1 =>
    rw [e] at out
    intro P1 H1 A1 B1 v x1 o1 r1 d1 n1
    obtain ⟨rfl, r1⟩ := r1
    exact k P1 H1 ρ1 A1 ds v o1 r1 (out.shift x1 n1.left)
theorem im_tup {gs : Rho → R (List D)} (hl : ∀ ρ ds ρ', gs ρ = .ok ds ρ' → ds.length ≤ 1000) (h : tE Wx (fun ρ => kTup (gs ρ)) σ H Q) : tTup (tVs Wx gs) σ H Q := by
  obtain ⟨P, ρ, A, ok, out⟩ := h
  dsimp only at out
  refine ⟨P, ρ, A, ok, ?_⟩
  cases e : gs ρ with
  | bad => rw [e] at out; exact out.elim
  | exc ex ρ1 => rw [e] at out; exact out
  | ok ds ρ1 =>
    rw [e] at out
    intro P1 H1 A1 B1 v x1 o1 r1 d1 n1
    obtain ⟨rfl, r1⟩ := r1
    have := hl _ _ _ e
    exact ⟨by rw [← r1.length, sizeLine_eq]; omega, fun p hp => (Out.shift (L := RA) out x1 n1.left).tup o1 hp r1⟩
theorem im_lst {gs : Rho → R (List D)} (hl : ∀ ρ ds ρ', gs ρ = .ok ds ρ' → ds.length ≤ 1000) (h : tE Wx (fun ρ => kLst (gs ρ)) σ H Q) : tLst (tVs Wx gs) σ H Q := by
  obtain ⟨P, ρ, A, ok, out⟩ := h
  dsimp only at out
  refine ⟨P, ρ, A, ok, ?_⟩
  cases e : gs ρ with
  | bad => rw [e] at out; exact out.elim
  | exc ex ρ1 => rw [e] at out; exact out
  | ok ds ρ1 =>
    rw [e] at out
    intro P1 H1 A1 B1 v x1 o1 r1 d1 n1
    obtain ⟨rfl, r1⟩ := r1
    have := hl _ _ _ e
    exact ⟨by rw [← r1.length, sizeLine_eq]; omega, fun p hp => (Out.shift (L := RA) out x1 n1.left).lst o1 hp r1⟩
end
/-- how many values there are -/
theorem evVs_len {c : Ctx} : ∀ (es : List ME) (ρ : Rho) (ds : List D) (ρ' : Rho), evVs c es ρ = .ok ds ρ' → ds.length = es.length
  | [], ρ, ds, ρ', h => by cases h; rfl
  | e :: es, ρ, ds, ρ', h => by
    have h : kFrz (kVals1 (evVs c es)) (evE c e ρ) = .ok ds ρ' := h
    cases e1 : evE c e ρ with
    | bad => rw [e1] at h; cases h
    | exc _ _ => rw [e1] at h; cases h
    | ok x ρ1 =>
      rw [e1] at h
      cases e2 : frz x ρ1 with
      | none => simp only [kFrz, e2] at h; cases h
      | some p =>
        obtain ⟨d, ρ2⟩ := p
        simp only [kFrz, e2, kVals1] at h
        cases e3 : evVs c es ρ2 with
        | bad => rw [e3] at h; cases h
        | exc _ _ => rw [e3] at h; cases h
        | ok ds' ρ3 =>
          rw [e3] at h
          cases h
          rw [List.length_cons, List.length_cons, evVs_len es _ _ _ e3]
end SW

set_option Elab.async false
set_option linter.all false
set_option maxRecDepth 100000
set_option maxHeartbeats 2000000
/-! what is walked; loops; comprehensions -/
namespace SW
open PySem PySem.Spec L2
open PyProof.Rows hiding St
/-! ### what is walked -/
inductive ItOf (K : PySem.W.Frag) (H : Hp) : V → It → Prop
  | lst {a : Addr} {vs : List V} (h : Rd H a (.lst vs)) : ItOf K H (.ref a) (Itl K a)
  | tup {a : Addr} {vs : List V} (h : H a = some (.tup vs)) : ItOf K H (.ref a) (Itt K a)
  | str (x : Str) : ItOf K H (.str x) (Its x)
  | keys {a : Addr} {o : Obj} {kvs : List (Key × V)} (h : H a = some (.frz o (.dK kvs))) : ItOf K H (.ref a) (Itk a o kvs)
  | keysT {a : Addr} {o : Obj} (h : H a = some (.frz o (.dT []))) : ItOf K H (.ref a) (Itkt a o [])
/-- a dict is locked for good as it is walked -/
def ToLock (x : V) (H1 : Hp) (R : It → Hp → Prop) : Prop := ∃ a u, x = .ref a ∧ H1 a = some u ∧ ((∃ kvs, u = .dK kvs ∧ ∀ od, R (Itk a od kvs) (upd H1 a (.frz od u))) ∨ (u = .dT [] ∧ ∀ od, R (Itkt a od []) (upd H1 a (.frz od u))))
def iAny (K : PySem.W.Frag) (te : TE) : TI := fun σ H R => te σ H fun x H1 => (∃ J, ItOf K H1 x J ∧ R J H1) ∨ ToLock x H1 R
theorem pi_keyK {X : Cx} {tg : Expr} {pins : List (Addr × Obj)} {σ : St} {H : Hp} {s : Shared} {a : Addr} {o : Obj} {kvs : List (Key × V)} {R : It → Hp → Prop} (I1 : Inv X pins σ H s) (hd : H a = some (.frz o (.dK kvs))) (q : R (Itk a o kvs) H) :
    wpAny (model X.prog X.w) X.A (pyIter (.ref a)) (PIE X pins σ tg R) X.xe s := by
  obtain ⟨hs, hgd, hx, es, ep, vs, hdt, hsz, kv, hm⟩ := I1.frzK hd
  refine iter_keys hs hgd hx hdt (pi_one (tk := s.toks) I1 _ (turn_keys _ hdt) ⟨_, Heap.get?_push_size _ rfl, rfl, ?_⟩ q)
  rw [hsz] <;> rfl
theorem pi_keyT {X : Cx} {tg : Expr} {pins : List (Addr × Obj)} {σ : St} {H : Hp} {s : Shared} {a : Addr} {o : Obj} {kvs : List (List Key × V)} {R : It → Hp → Prop} (I1 : Inv X pins σ H s) (hd : H a = some (.frz o (.dT kvs))) (q : R (Itkt a o kvs) H) :
    wpAny (model X.prog X.w) X.A (pyIter (.ref a)) (PIE X pins σ tg R) X.xe s := by
  obtain ⟨hs, hgd, hx, es, ep, hdt, hsz, ent⟩ := I1.frzT hd
  refine iter_keys hs hgd hx hdt (pi_one (tk := s.toks) I1 _ (turn_keysT _ hdt) ⟨_, Heap.get?_push_size _ rfl, rfl, ?_⟩ q)
  rw [hsz] <;> rfl
theorem pi_any {X : Cx} {tg e : Expr} {te : TE} (he : PE X e te) : PI X tg e (iAny X.K te) := by
  refine ⟨fun pins s σ H R I h => ?_⟩
  refine thn (he.run pins s σ H _ I h) fun v s1 ⟨x, H1, I1, r1, q0⟩ => ?_
  rcases q0 with ⟨J, io, q⟩ | ⟨a, u, rfl, hu, ⟨kvs, rfl, q⟩ | ⟨rfl, q⟩⟩
  case inr.inl =>
    cases r1
    obtain ⟨od, I2⟩ := I1.lock hu trivial
    exact pi_keyK I2 upd_same (q od)
  case inr.inr =>
    cases r1
    obtain ⟨od, I2⟩ := I1.lock hu trivial
    exact pi_keyT I2 upd_same (q od)
  cases io with
  | keys h => cases r1; exact pi_keyK I1 h q
  | keysT h => cases r1; exact pi_keyT I1 h q
  | @lst a vs hq =>
    cases r1
    obtain ⟨its, rv, p, hz⟩ := I1.list (.inl hq)
    refine wpAny_pyIter_list p.isList ?_
    exact pi_one (tk := s1.toks) I1 _ (turn_list a _) ⟨_, Heap.get?_push_size _ rfl, rfl, rfl⟩ q
  | @tup a vs hq =>
    cases r1
    obtain ⟨its, rv, p, hz⟩ := I1.tuple (.of hq)
    refine wpAny_pyIter_tuple (show s1.heap.IsTuple a its.toArray from p) ?_
    exact pi_one (tk := s1.toks) I1 _ (turn_tuple a _) ⟨_, Heap.get?_push_size _ rfl, rfl, rfl⟩ q
  | str y =>
    obtain ⟨t, rfl⟩ := r1
    cases ha : y.cps.all (· < 128)
    · exact wpAny_pyIter_wide ha (pi_one (tk := s1.toks) I1 _ (turn_str _ y t "str_iterator" (.inr rfl)) ⟨_, Heap.get?_push_size _ rfl, rfl, rfl⟩ q)
    · exact wpAny_pyIter_ascii ha (pi_one (tk := s1.toks) I1 _ (turn_str _ y t "str_ascii_iterator" (.inl rfl)) ⟨_, Heap.get?_push_size _ rfl, rfl, rfl⟩ q)
/-- J walks vs while okH stands -/
structure Wk (J : It) (vs : List V) (okH : Hp → Prop) : Prop where
  go : ∀ i H, okH H → i < vs.length → J.go i H
  yld : ∀ i H x H', okH H → i < vs.length → J.yld i H x H' → H' = H ∧ vs[i]? = some x
  stop : ∀ H, okH H → J.stop vs.length H
theorem wk_lst {K : PySem.W.Frag} {a : Addr} {vs : List V} : Wk (Itl K a) vs fun H => Rd H a (.lst vs) where
  go := fun i H h hi => ⟨vs, vs[i], .inl h, by simp [hi]⟩
  yld := fun i H x H' h hi y => ⟨y.1, y.2 vs (.inl h)⟩
  stop := fun H h => ⟨vs, .inl h, Nat.le_refl _⟩
theorem wk_tup {K : PySem.W.Frag} {a : Addr} {vs : List V} : Wk (Itt K a) vs fun H => H a = some (.tup vs) where
  go := fun i H h hi => ⟨vs, vs[i], .of h, by simp [hi]⟩
  yld := fun i H x H' h hi y => ⟨y.1, y.2 vs (.of h)⟩
  stop := fun H h => ⟨vs, .of h, Nat.le_refl _⟩
theorem wk_str {x : Str} : Wk (Its x) (x.cps.toList.map fun c => V.str ⟨#[c]⟩) fun _ => True where
  go := fun i H _ hi => by
    show i < x.cps.size
    simpa using hi
  yld := fun i H v H' _ hi y => by
    obtain ⟨e, c, h1, h2⟩ := y
    refine ⟨e, ?_⟩
    rw [List.getElem?_map, Array.getElem?_toList, h1, h2]; rfl
  stop := fun H _ => by
    show x.cps.size ≤ _
    simp
theorem wk_rng {lo : Int} {n : Nat} : Wk (Itr lo n) ((List.range n).map fun (k : Nat) => V.int (lo + k)) fun _ => True where
  go := fun i H _ hi => by
    show i < n
    simpa using hi
  yld := fun i H v H' _ hi y => by
    obtain ⟨e, h⟩ := y
    have hi : i < n := by simpa using hi
    refine ⟨e, ?_⟩
    rw [List.getElem?_map, List.getElem?_range hi, h]; rfl
  stop := fun H _ => by
    show n ≤ _
    simp
theorem rds_str {P : Hp} : ∀ l : List Nat, RDs P (l.map chr1) (l.map fun c => V.str ⟨#[c]⟩)
  | [] => .nil
  | c :: l => .cons rd_str (rds_str l)
theorem rds_rng {P : Hp} {lo : Int} : ∀ l : List Nat, RDs P (l.map fun (k : Nat) => PyData.int (lo + k)) (l.map fun (k : Nat) => V.int (lo + k))
  | [] => .nil
  | c :: l => .cons rd_int (rds_rng l)
/-- how the items stand for as long as the values stay -/
def Walked (P1 : Hp) (J : It) (ds : List D) : Prop := ∃ vs okH, Wk J vs okH ∧ RDs P1 ds vs ∧ ∀ P' H', Keep P1 P' → (∀ a o, P' a = some o → H' a = some o) → okH H'
theorem wk_keys {d : Addr} {o : Obj} {kvs : List (Key × V)} : Wk (Itk d o kvs) (kvs.map fun p => kV p.1) fun H => H d = some (.frz o (.dK kvs)) where
  go := fun i H h hi => ⟨h, by simpa using hi⟩
  yld := fun i H x H' h hi y => by
    obtain ⟨e, k, v, h1, h2⟩ := y
    refine ⟨e, ?_⟩
    rw [List.getElem?_map, h1, h2]; rfl
  stop := fun H h => ⟨h, by simp⟩
theorem wk_keysT {d : Addr} {o : Obj} : Wk (Itkt d o []) [] fun H => H d = some (.frz o (.dT [])) where
  go := fun i H h hi => absurd hi (by simp)
  yld := fun i H x H' h hi y => absurd hi (by simp)
  stop := fun H h => ⟨h, by simp⟩
theorem rds_keys {P : Hp} : ∀ {kvs : List (D × D)} {ks : List (Key × V)}, RK P kvs ks → RDs P (kvs.map (·.1)) (ks.map fun p => kV p.1)
  | [], ks, h => by rw [RK] at h; subst h; exact .nil
  | (k, d) :: r, ks, h => by
    rw [RK] at h
    obtain ⟨q, v, t, rfl, rfl, h1, h2⟩ := h
    refine .cons ?_ (rds_keys h2)
    cases q with
    | inl i => rw [show keyD (.inl i) = .int i from rfl, RD]; rfl
    | inr x => rw [show keyD (.inr x) = .str x from rfl, RD]; rfl
theorem rt_plain {P : Hp} {kvs : List (D × D)} {ts : List (List Key × V)} (h : RT P kvs ts) (hk : (kvs.all fun p => isKey1 p.1) = true) : kvs = [] ∧ ts = [] := by
  cases kvs with
  | nil => rw [RT] at h; exact ⟨rfl, h⟩
  | cons p r =>
    obtain ⟨k, d⟩ := p
    rw [RT] at h
    obtain ⟨q, v, t, rfl, rfl, h1, h2⟩ := h
    rw [List.all_cons] at hk
    cases hk
/-- a dict that stays is locked -/
theorem lock_ext {P H : Hp} {σ : St} {ρ : Rho} {A : List Addr} {a : Addr} {u : HO} (o : Ok P H σ ρ A) (h : P a = some u) (hf : L2.Mut (some u)) (hn : ∀ vs, u ≠ .tup vs) (od : Obj) :
    Ext A P H (upd P a (.frz od u)) (upd H a (.frz od u)) ∧ Ok (upd P a (.frz od u)) (upd H a (.frz od u)) σ ρ A := by
  have kp : Keep P (upd P a (.frz od u)) := by
    refine ⟨fun b w q => ?_, fun b vs q => ?_, fun b o' w q => ?_⟩
    · by_cases e : b = a
      · subst e
        rcases q with q | ⟨o', q⟩
        · rw [h] at q; cases q; exact .inr ⟨od, upd_same⟩
        · rw [h] at q; cases q; exact hf.elim
      · unfold Rd; rw [upd_ne e]; exact q
    · rw [upd_ne (fun e => by subst e; rw [h] at q; cases q; exact hn _ rfl)]; exact q
    · rw [upd_ne (fun e => by subst e; rw [h] at q; cases q; exact hf.elim)]; exact q
  have x : ∀ A : List Addr, Ext A P H (upd P a (.frz od u)) (upd H a (.frz od u)) := fun A => by
    refine ⟨kp, fun b w e hb hp => ?_, fun b q => ?_, fun b q => ?_⟩
    · rw [upd_ne (fun z => by subst z; rw [h] at hp; cases hp)]; exact e
    · by_cases e : b = a
      · subst e; exact .inl (by rw [h]; simp)
      · rw [upd_ne e] at q; exact .inl q
    · by_cases e : b = a
      · subst e; rw [upd_same]; simp
      · rw [upd_ne e]; exact q
  refine ⟨x A, o.ext (x []) (fun b w e => ?_) fun _ _ => List.not_mem_nil⟩
  by_cases z : b = a
  · subst z; rw [upd_same] at e ⊢; exact e
  · rw [upd_ne z] at e ⊢; exact o.sub _ _ e
theorem dict_walk {K : PySem.W.Frag} {P1 H1 : Hp} {σ : St} {ρ1 : Rho} {A1 : List Addr} (o1 : Ok P1 H1 σ ρ1 A1) {kvs : List (D × D)} {v : V} (rd : RD P1 (.dict kvs) v) (hk : (kvs.all fun p => isKey1 p.1) = true) {R : It → Hp → Prop}
    (k : ∀ P2 H2 J, Ok P2 H2 σ ρ1 A1 → Ext A1 P1 H1 P2 H2 → Walked P2 J (kvs.map (·.1)) → R J H2) : (∃ J, ItOf K H1 v J ∧ R J H1) ∨ ToLock v H1 R := by
  rw [RD] at rd
  obtain ⟨a, rfl, ⟨ks, h1, h2⟩ | ⟨ts, h1, h2⟩⟩ := rd
  · rcases h1 with h1 | ⟨o, h1⟩
    · refine .inr ⟨a, _, rfl, o1.sub _ _ h1, .inl ⟨ks, rfl, fun od => ?_⟩⟩
      obtain ⟨x, o2⟩ := lock_ext o1 h1 trivial (by intro vs e; cases e) od
      exact k _ _ _ o2 x ⟨_, _, wk_keys, rds_keys (RK.keep x.keep _ _ h2), fun P' H' kp s => s _ _ (kp.frz _ _ _ upd_same)⟩
    · exact .inl ⟨_, .keys (o1.sub _ _ h1), k _ _ _ o1 .refl ⟨_, _, wk_keys, rds_keys h2, fun P' H' kp s => s _ _ (kp.frz _ _ _ h1)⟩⟩
  · obtain ⟨rfl, rfl⟩ := rt_plain h2 hk
    rcases h1 with h1 | ⟨o, h1⟩
    · refine .inr ⟨a, _, rfl, o1.sub _ _ h1, .inr ⟨rfl, fun od => ?_⟩⟩
      obtain ⟨x, o2⟩ := lock_ext o1 h1 trivial (by intro vs e; cases e) od
      exact k _ _ _ o2 x ⟨_, _, wk_keysT, .nil, fun P' H' kp s => s _ _ (kp.frz _ _ _ upd_same)⟩
    · exact .inl ⟨_, .keysT (o1.sub _ _ h1), k _ _ _ o1 .refl ⟨_, _, wk_keysT, .nil, fun P' H' kp s => s _ _ (kp.frz _ _ _ h1)⟩⟩
section
variable {Wx : Wish} {σ : St} {H : Hp} {K : PySem.W.Frag}
theorem im_iter {α β : Type} {L : Rel α β} {f : List D → Rho → R α} {g : Rho → R SW.A} {Q : β → Hp → Prop} {R1 : It → Hp → Prop} {P : Hp} {ρ : Rho} {A : List Addr} (ok : Ok P H σ ρ A)
    (out : Out Wx L σ P H A (kFrz (fun d ρ => match items d with
      | some ds => f ds ρ
      | none => .bad) (g ρ)) Q)
    (k : ∀ P1 H1 ρ1 A1 ds J, Ok P1 H1 σ ρ1 A1 → Walked P1 J ds → Out Wx L σ P1 H1 A1 (f ds ρ1) Q → R1 J H1) : iAny K (tE Wx g) σ H R1 := by
  refine im_frz (L := L) (f := fun d ρ => match items d with
      | some ds => f ds ρ
      | none => .bad) (Q := Q) ⟨P, ρ, A, ok, out⟩ fun P1 H1 ρ1 A1 d v o1 rd out => ?_
  cases d with
  | list ds =>
    rw [RD] at rd
    obtain ⟨a, vs, rfl, h1, h2⟩ := rd
    exact .inl ⟨_, .lst ((Keep.of_le o1.sub).rd _ _ h1), k P1 H1 ρ1 A1 ds _ o1 ⟨vs, _, wk_lst, h2, fun P' H' kp s => (kp.trans (Keep.of_le s)).rd _ _ h1⟩ out⟩
  | tuple ds =>
    rw [RD] at rd
    obtain ⟨a, vs, rfl, h1, h2⟩ := rd
    exact .inl ⟨_, .tup (o1.sub _ _ h1), k P1 H1 ρ1 A1 ds _ o1 ⟨vs, _, wk_tup, h2, fun P' H' kp s => s _ _ (kp.tup _ _ h1)⟩ out⟩
  | str x =>
    rw [RD] at rd
    subst rd
    exact .inl ⟨_, .str x, k P1 H1 ρ1 A1 _ _ o1 ⟨_, _, wk_str, rds_str _, fun _ _ _ _ => trivial⟩ out⟩
  | dict kvs =>
    by_cases hk : (kvs.all fun p => isKey1 p.1) = true
    · have out : Out Wx L σ P1 H1 A1 (match (if (kvs.all fun p => isKey1 p.1) = true then some (kvs.map (·.1)) else none) with
        | some ds => f ds ρ1
        | none => .bad) Q := out
      rw [if_pos hk] at out
      exact dict_walk o1 rd hk fun P2 H2 J o2 x w => k P2 H2 ρ1 A1 _ J o2 w (out.shift x .refl)
    · have out : Out Wx L σ P1 H1 A1 (match (if (kvs.all fun p => isKey1 p.1) = true then some (kvs.map (·.1)) else none) with
        | some ds => f ds ρ1
        | none => .bad) Q := out
      rw [if_neg hk] at out
      exact out.elim
  | _ => exact out.elim
theorem small_ok {i : Int} (h : smallI i = true) : -(2 ^ 62) ≤ i ∧ i < 2 ^ 62 := of_decide_eq_true h
end
/-! ### targets -/
def gNames : List Nat → TGs
  | [] => gNil
  | i :: is => gCons (gName i) (gNames is)
def gT (K : PySem.W.Frag) : MT → TG
  | .name i => gName i
  | .tup is => gTup K is.length (gNames is)
theorem sub_nodup {A A' : List Addr} (h : A.Nodup) (s : A'.Sublist A) : A'.Nodup := h.sublist s
theorem mid_sub {A1 A0 A2 : List Addr} : (A1 ++ ([] ++ A2)).Sublist (A1 ++ (A0 ++ A2)) := by
  rw [List.nil_append]
  exact (List.Sublist.refl A1).append (List.sublist_append_right A0 A2)
theorem Ok.len {P H : Hp} {σ : St} {ρ : Rho} {A : List Addr} (h : Ok P H σ ρ A) : ρ.length = σ.length := h.sl.length
theorem Ok.setV {P H : Hp} {σ : St} {ρ : Rho} {A : List Addr} (h : Ok P H σ ρ A) {i : Nat} {d : D} {v : V} (r : RD P d v) (hi : i < ρ.length) : ∃ A', Ok P H (σ.set i (some v)) (ρ.set i (some (.val d))) A' ∧ A'.Sublist A := by
  obtain ⟨A1, A0, A2, rfl, h2⟩ := Slots.put (X := []) Ext.refl i h.sl (fun _ _ => List.not_mem_nil) (o := .val d) (v := v) (B := []) ⟨rfl, r⟩ hi
  exact ⟨_, ⟨h.sub, h2, sub_nodup h.nd mid_sub⟩, mid_sub⟩
theorem bindL_ok {P H : Hp} : ∀ {is : List Nat} {ds : List D} {vs : List V} {σ : St} {ρ ρ' : Rho} {A : List Addr} {Q : St → Hp → Prop}, Ok P H σ ρ A → RDs P ds vs → bindL is ds ρ = some ρ' → (∀ i ∈ is, i < ρ.length) →
    (∀ σ' A', Ok P H σ' ρ' A' → A'.Sublist A → (∀ j, j ∉ is → σ'[j]? = σ[j]?) → σ'.length = σ.length → Q σ' H) → gNames is vs σ H Q
  | [], [], vs, σ, ρ, ρ', A, Q, ok, r, e, _, k => by
    cases e
    exact ⟨r.nil_inv, k σ A ok (List.Sublist.refl _) (fun _ _ => rfl) rfl⟩
  | [], _ :: _, _, _, _, _, _, _, _, _, e, _, _ => by cases e
  | _ :: _, [], _, _, _, _, _, _, _, _, e, _, _ => by cases e
  | i :: is, d :: ds, vs, σ, ρ, ρ', A, Q, ok, r, e, hl, k => by
    obtain ⟨v, t, rfl, h1, h2⟩ := r.inv
    have e : bindL is ds (ρ.set i (some (.val d))) = some ρ' := e
    obtain ⟨A', ok', s'⟩ := ok.setV h1 (hl i (by simp))
    refine ⟨v, t, rfl, ?_⟩
    refine bindL_ok ok' h2 e (fun j hj => by rw [List.length_set]; exact hl j (by simp [hj])) fun σ' A'' ok'' s'' hs hn => k σ' A'' ok'' (s''.trans s') (fun j hj => ?_) (by rw [hn, List.length_set])
    rw [hs j fun q => hj (by simp [q]), List.getElem?_set_ne fun q => hj (by simp [q])]
theorem bindT_ok {K : PySem.W.Frag} {P H : Hp} {t : MT} {d : D} {v : V} {σ : St} {ρ ρ' : Rho} {A : List Addr} {Q : St → Hp → Prop} (ok : Ok P H σ ρ A) (r : RD P d v) (e : bindT t (.val d) ρ = some ρ') (hl : ∀ i ∈ t.slots, i < ρ.length)
    (k : ∀ σ' A', Ok P H σ' ρ' A' → A'.Sublist A → (∀ j, j ∉ t.slots → σ'[j]? = σ[j]?) → σ'.length = σ.length → Q σ' H) : gT K t v σ H Q := by
  cases t with
  | name i =>
    cases e
    obtain ⟨A', ok', s'⟩ := ok.setV r (hl i (by simp [MT.slots]))
    exact k _ _ ok' s' (fun j hj => List.getElem?_set_ne fun q => hj (by simp [MT.slots, q])) (by rw [List.length_set])
  | tup is =>
    cases d with
    | tuple ds =>
      rw [RD] at r
      obtain ⟨a, vs, rfl, h1, h2⟩ := r
      have e : bindL is ds ρ = some ρ' := e
      have hn : ∀ (is : List Nat) (ds : List D) (ρ ρ' : Rho), bindL is ds ρ = some ρ' → ds.length = is.length := by
        intro is
        induction is with
        | nil => intro ds ρ ρ' e; cases ds with
          | nil => rfl
          | cons _ _ => cases e
        | cons i is ih => intro ds ρ ρ' e; cases ds with
          | nil => cases e
          | cons d ds => rw [List.length_cons, List.length_cons, ih ds _ _ e]
      exact ⟨a, vs, rfl, .of (ok.sub _ _ h1), by rw [← h2.length]; exact hn _ _ _ _ e, bindL_ok ok h2 e hl k⟩
    | _ => cases e
theorem wipe_same {σ σ' : St} (hn : σ'.length = σ.length) : ∀ {is : List Nat}, (∀ j, j ∉ is → σ'[j]? = σ[j]?) → wipe σ' is = wipe σ is := by
  intro is h
  refine List.ext_getElem? fun j => ?_
  by_cases hj : j ∈ is
  · have key : ∀ (τ : St) (is : List Nat), j ∈ is → (wipe τ is)[j]? = if j < τ.length then some none else none := by
      intro τ is
      induction is with
      | nil => intro q; cases q
      | cons i is ih =>
        intro q
        show ((wipe τ is).set i none)[j]? = _
        by_cases e : i = j
        · subst e
          by_cases hl : i < τ.length
          · rw [if_pos hl, List.getElem?_set_self (by rw [wipe_length]; exact hl)]
          · rw [if_neg hl, List.getElem?_eq_none (by rw [List.length_set, wipe_length]; omega)]
        · rw [List.getElem?_set_ne e]
          exact ih ((List.mem_cons.mp q).resolve_left fun z => e z.symm)
    rw [key σ' is hj, key σ is hj, hn]
  · rw [wipe_out hj, wipe_out hj]
    exact h j hj
theorem wipe_idem (σ : St) (is : List Nat) : wipe (wipe σ is) is = wipe σ is := wipe_same (wipe_length _ _) fun j hj => wipe_out hj
/-! ### names forgotten, and back -/
theorem wipeR_length (ρ : Rho) : ∀ is : List Nat, (wipeR ρ is).length = ρ.length
  | [] => rfl
  | i :: is => by rw [wipeR, List.length_set, wipeR_length ρ is]
theorem mid_sub2 {A1 A0 A2 : List Addr} : (A1 ++ A2).Sublist (A1 ++ (A0 ++ A2)) := (List.Sublist.refl A1).append (List.sublist_append_right A0 A2)
theorem Ok.wipe {P H : Hp} {σ : St} {ρ : Rho} {A : List Addr} (h : Ok P H σ ρ A) : ∀ is : List Nat, ∃ A', Ok P H (L2.wipe σ is) (wipeR ρ is) A' ∧ A'.Sublist A
  | [] => ⟨A, h, List.Sublist.refl _⟩
  | i :: is => by
    obtain ⟨A', h', s'⟩ := h.wipe is
    obtain ⟨A1, A0, A2, rfl, h2, _⟩ := Slots.wipe i none h'.sl
    exact ⟨A1 ++ A2, ⟨h'.sub, h2, sub_nodup h'.nd mid_sub2⟩, mid_sub2.trans s'⟩
theorem Slots.reset {P H : Hp} : ∀ {ρ : Rho} {σ : St} {A : List Addr} (i : Nat) (s : Option V) {r : Option O}, Slots P H ρ (σ.set i s) A → (∀ z, σ[i]? = some z → SlotOk P H [] r z) → ∃ A', Slots P H (ρ.set i r) σ A' ∧ A'.Sublist A
  | [], σ, A, i, s, r, h, _ => by
    obtain ⟨e, rfl⟩ := h
    have : σ = [] := by
      have := congrArg List.length e
      rw [List.length_set] at this
      exact List.length_eq_zero_iff.mp this
    exact ⟨[], ⟨this, rfl⟩, List.Sublist.refl _⟩
  | r0 :: ρ, [], A, i, s, r, h, _ => by
    obtain ⟨s', t, B, C, e, _⟩ := h
    cases e
  | r0 :: ρ, z :: σ, _, 0, s, r, h, k => by
    obtain ⟨s', t, B, C, e, rfl, h1, h2⟩ := h
    cases e
    exact ⟨[] ++ C, ⟨z, σ, [], C, rfl, rfl, k z rfl, h2⟩, List.sublist_append_right B C⟩
  | r0 :: ρ, z :: σ, _, i + 1, s, r, h, k => by
    obtain ⟨s', t, B, C, e, rfl, h1, h2⟩ := h
    cases e
    obtain ⟨A', h3, s3⟩ := Slots.reset i s h2 fun z' q => k z' (by simpa using q)
    exact ⟨B ++ A', ⟨z, σ, B, A', rfl, rfl, h1, h3⟩, (List.Sublist.refl B).append s3⟩
theorem Ok.back {P H : Hp} {ρ0 : Rho} : ∀ {is : List Nat} {σ : St} {ρ : Rho} {A : List Addr}, is.Nodup → Ok P H (L2.wipe σ is) ρ A → (∀ i ∈ is, ∀ z, σ[i]? = some z → SlotOk P H [] (slot ρ0 i) z) → ∃ A', Ok P H σ (backR ρ0 ρ is) A' ∧ A'.Sublist A
  | [], σ, ρ, A, _, h, _ => ⟨A, h, List.Sublist.refl _⟩
  | i :: is, σ, ρ, A, nd, h, k => by
    obtain ⟨hi, nd⟩ := List.nodup_cons.mp nd
    have h1 : Slots P H ρ ((L2.wipe σ is).set i none) A := h.sl
    obtain ⟨A', h3, s3⟩ := Slots.reset i none h1 fun z hz => k i (by simp) z (by rw [wipe_out hi] at hz; exact hz)
    obtain ⟨A'', h4, s4⟩ := Ok.back (ρ := ρ.set i (slot ρ0 i)) nd ⟨h.sub, h3, sub_nodup h.nd s3⟩ fun j hj => k j (by simp [hj])
    exact ⟨A'', h4, s4.trans s3⟩
theorem wipeR_slot {ρ : Rho} : ∀ {is : List Nat} {i : Nat}, i ∈ is → slot (wipeR ρ is) i = none
  | [], _, h => nomatch h
  | j :: is, i, h => by
    unfold slot
    show (((wipeR ρ is).set j none)[i]?).join = none
    by_cases e : j = i
    · subst e
      by_cases hl : j < (wipeR ρ is).length
      · rw [List.getElem?_set_self hl]; rfl
      · rw [List.getElem?_eq_none (by rw [List.length_set]; omega)]; rfl
    · rw [List.getElem?_set_ne e]
      exact wipeR_slot ((List.mem_cons.mp h).resolve_left fun z => e z.symm)

/-! ### comprehensions -/
def noWish : Wish := fun _ _ _ _ => False
theorem ext_upd {A : List Addr} {P H : Hp} {D : Addr} (o : HO) (hP : P D = none) (hD : D ∈ A) (hH : H D ≠ none) : Ext A P H P (upd H D o) :=
  ⟨.refl, fun a u e ha _ => by rw [upd_ne (fun z => ha (by rw [z]; exact hD))]; exact e, fun _ h => .inl h, fun a h => by
    unfold L2.upd; split
    · simp
    · exact h⟩
theorem Ok.upd {P H : Hp} {σ : St} {ρ : Rho} {A : List Addr} (h : Ok P H σ ρ A) {D : Addr} (o : HO) (hP : P D = none) (hD : D ∉ A) (hH : H D ≠ none) : Ok P (L2.upd H D o) σ ρ A :=
  h.ext (A0 := [D]) (ext_upd o hP (by simp) hH) (fun a u e => by rw [upd_ne (fun z => by subst z; rw [hP] at e; cases e)]; exact h.sub a u e) fun a ha z => hD (by rw [← List.mem_singleton.mp z]; exact ha)
/-- the state of a comprehension at a turn -/
structure LcSt (σ : St) (is : List Nat) (P1 H1 : Hp) (A1 : List Addr) (D : Addr) (ρ : Rho) (acc : List SW.D) (P H : Hp) (A : List Addr) : Prop where
  ext : Ext (D :: A1) P1 H1 P H
  ok : Ok P H (wipe σ is) ρ A
  ndD : D ∉ A
  new : New A1 H1 A
  pD : P D = none
  hD : ∃ vs, H D = some (.lst vs) ∧ RDs P acc vs
theorem New.dcons {A1 A : List Addr} {H1 : Hp} {D : Addr} (h : New A1 H1 A) (hd : H1 D = none) : New A1 H1 (D :: A) := fun a ha => by
  rcases List.mem_cons.mp ha with e | ha
  · subst e; exact .inr hd
  · exact h a ha
/-- on from a state of a comprehension -/
theorem LcSt.go {σ : St} {is : List Nat} {P1 H1 : Hp} {A1 : List Addr} {D : Addr} {ρ ρ' : Rho} {acc : List SW.D} {P H P' H' : Hp} {A A' : List Addr} (s : LcSt σ is P1 H1 A1 D ρ acc P H A) (hd : H1 D = none) (x : Ext A P H P' H') (o : Ok P' H' (wipe σ is) ρ' A') (n : New A H A') :
    LcSt σ is P1 H1 A1 D ρ' acc P' H' A' := by
  obtain ⟨vs, e, r⟩ := s.hD
  have he : H D ≠ none := by rw [e]; simp
  refine ⟨s.ext.trans (A' := D :: A) (x.mono (A' := D :: A) fun a ha => List.mem_cons_of_mem D ha) ?_, o, fun z => ?_, ?_, x.none s.pD s.ndD he, vs, x.kept D _ e s.ndD s.pD, RDs.keep x.keep acc vs r⟩
  · intro a ha
    rcases List.mem_cons.mp ha with z | z
    · subst z; exact .inl (by simp)
    · exact (s.new a z).imp (List.mem_cons_of_mem _) id
  · rcases n D z with w | w
    · exact s.ndD w
    · exact he w
  · exact s.new.trans n fun a q => s.ext.there a q
def condC (ee : Rho → R SW.A) : Option (Rho → R SW.A) → Rho → R (Option D)
  | none => elt1 ee
  | some g => fun ρ => kTst (elt1 ee) none1 (g ρ)
def ttC : Option (Rho → R SW.A) → TT
  | none => tYes
  | some g => tB (tE noWish g)
theorem im_lc {K : PySem.W.Frag} {Wx : Wish} {σ : St} {t : MT} {cnd : Option (Rho → R SW.A)} {ee : Rho → R SW.A} {Q : VK} {cond : Rho → R (Option D)}
    (hcond : cond = condC ee cnd)
    (nd : t.slots.Nodup) {P1 H1 : Hp} {ρ1 : Rho} {A1 : List Addr} {ds : List D} {J : It} (o1 : Ok P1 H1 σ ρ1 A1) (w : Walked P1 J ds) (out : Out Wx RA σ P1 H1 A1 (lcAll t cond ds ρ1) Q) (D : Addr) (hD : H1 D = none) :
    ∃ W : Nat → Nat → Hp → Prop, (∃ m, W 0 m (upd H1 D (.lst []))) ∧ ∀ i m H, W i m H →
      (J.stop i H ∧ Q (.ref D) H) ∨ (J.go i H ∧ ∃ Nx : Hp → Prop, (∀ H', Nx H' → ∃ m', m' < m ∧ W (i + 1) m' H') ∧ ∀ x H', J.yld i H x H' → gT K t x (wipe σ t.slots) H' fun σ2 H2 => wipe σ2 t.slots = wipe σ t.slots ∧ ttC cnd σ2 H2 fun b H3 =>
        if b = true then (tE noWish ee) σ2 H3 fun y H4 => ∃ acc, H4 D = some (.lst acc) ∧ acc.length < sizeLine ∧ Nx (upd H4 D (.lst (acc ++ [y]))) else Nx H3) := by
  obtain ⟨vs, okH, wk, rv, hok⟩ := w
  unfold lcAll at out
  split at out
  case isFalse => exact out.elim
  rename_i free
  have hl : ∀ i ∈ t.slots, i < ρ1.length := fun i hi => of_decide_eq_true (Bool.and_eq_true_iff.mp (List.all_eq_true.mp free i hi)).1
  have dA1 : D ∉ A1 := o1.fresh hD
  have pD1 : P1 D = none := o1.noneP hD
  obtain ⟨res, hres⟩ : ∃ r, r = lcL (lcTurn t cond) ds [] (wipeR ρ1 t.slots) := ⟨_, rfl⟩
  rw [← hres] at out
  cases res with
  | bad => exact out.elim
  | exc e ρ' =>
    exfalso
    have : ∀ (f : SW.D → Rho → R (Option SW.D)) (ds : List SW.D) (acc : List SW.D) (ρ : Rho), lcL f ds acc ρ ≠ .exc e ρ' := by
      intro f ds
      induction ds with
      | nil => intro acc ρ h; cases h
      | cons d ds ih =>
        intro acc ρ h
        unfold lcL at h
        split at h
        · split at h
          · exact ih _ _ h
          · cases h
        · exact ih _ _ h
        · cases h
    exact this _ _ _ _ hres.symm
  | ok accE ρE =>
    refine ⟨fun i m H => m = ds.length - i ∧ i ≤ ds.length ∧ ∃ P ρ A acc, LcSt σ t.slots P1 H1 A1 D ρ acc P H A ∧ ρ.length = ρ1.length ∧ lcL (lcTurn t cond) (ds.drop i) acc ρ = .ok accE ρE, ⟨ds.length, rfl, Nat.zero_le _, ?_⟩, ?_⟩
    · obtain ⟨A', o', s'⟩ := o1.wipe t.slots
      have hn : ∀ a ∈ A', a ∈ A1 := fun a ha => s'.subset ha
      refine ⟨P1, wipeR ρ1 t.slots, A', [], ⟨(ext_new _ hD o1.sub).mono fun a ha => List.mem_cons_of_mem _ ha, o'.new _ hD, fun z => dA1 (hn D z), fun a ha => .inl (hn a ha), pD1, [], upd_same, .nil⟩, wipeR_length _ _, by rw [List.drop_zero]; exact hres.symm⟩
    · rintro i m H ⟨rfl, hi, P, ρ, A, acc, st, hlen, hrun⟩
      have kp : okH H := hok P H st.ext.keep st.ok.sub
      have lv : ds.length = vs.length := rv.length
      by_cases hlt : i < ds.length
      · refine .inr ⟨wk.go i H kp (by omega), fun H' => i + 1 ≤ ds.length ∧ ∃ P ρ A acc, LcSt σ t.slots P1 H1 A1 D ρ acc P H' A ∧ ρ.length = ρ1.length ∧ lcL (lcTurn t cond) (ds.drop (i + 1)) acc ρ = .ok accE ρE, fun H' q => ⟨ds.length - (i + 1), by omega, rfl, q.1, q.2⟩, fun x H' y => ?_⟩
        obtain ⟨rfl, hx⟩ := wk.yld i H x H' kp (by omega) y
        obtain ⟨v, hv, rd0⟩ := rv.get (i := i) (d := ds[i]) (by simp [hlt])
        rw [hx] at hv
        cases hv
        have rd := RD.keep st.ext.keep _ _ rd0
        rw [List.drop_eq_getElem_cons hlt] at hrun
        unfold lcL at hrun
        have turn : lcTurn t cond ds[i] ρ = match bindT t (.val ds[i]) ρ with
          | some ρ1 => (match cond ρ1 with
            | .ok x ρ2 => .ok x (wipeR ρ2 t.slots)
            | .exc e ρ2 => .exc e ρ2
            | .bad => .bad)
          | none => .bad := rfl
        rw [turn] at hrun
        cases hb : bindT t (.val ds[i]) ρ with
        | none => rw [hb] at hrun; cases hrun
        | some ρb =>
          rw [hb] at hrun
          dsimp only at hrun
          refine bindT_ok st.ok rd hb (fun j hj => by rw [hlen]; exact hl j hj) fun σ2 A2 o2 s2 hs2 hn2 => ?_
          have ws : wipe σ2 t.slots = wipe σ t.slots := by
            rw [← wipe_idem σ]
            exact wipe_same (by rw [hn2]) hs2
          refine ⟨ws, ?_⟩
          have x2 : ∀ a ∈ A2, a ∈ A := fun a ha => s2.subset ha
          have dA2 : D ∉ A2 := fun z => st.ndD (x2 D z)
          -- the element, from a state behind the test
          have elt : ∀ (P3 H3 : Hp) (A3 : List Addr) (ρ3 : Rho), Ext A2 P H' P3 H3 → Ok P3 H3 σ2 ρ3 A3 → New A2 H' A3 → cond ρb = elt1 ee ρ3 →
              (tE noWish ee) σ2 H3 fun y H4 => ∃ acc, H4 D = some (.lst acc) ∧ acc.length < sizeLine ∧ (i + 1 ≤ ds.length ∧ ∃ P ρ A acc', LcSt σ t.slots P1 H1 A1 D ρ acc' P (upd H4 D (.lst (acc ++ [y]))) A ∧ ρ.length = ρ1.length ∧ lcL (lcTurn t cond) (ds.drop (i + 1)) acc' ρ = .ok accE ρE) := by
            intro P3 H3 A3 ρ3 x3 o3 n3 hc
            rw [hc] at hrun
            refine ⟨P3, ρ3, A3, o3, ?_⟩
            cases he : ee ρ3 with
            | bad => simp only [elt1, he, kFrz, kSome] at hrun; cases hrun
            | exc _ _ => simp only [elt1, he, kFrz, kSome] at hrun; cases hrun
            | ok z ρ4 =>
              intro P4 H4 A4 B4 v4 x4 o4 r4 d4 n4
              cases hf : frz z ρ4 with
              | none => simp only [elt1, he, kFrz, hf, kSome] at hrun; cases hrun
              | some p =>
                obtain ⟨d5, ρ5⟩ := p
                simp only [elt1, he, kFrz, hf, rFrz, kSome] at hrun
                split at hrun
                case isFalse => cases hrun
                rename_i hz
                obtain ⟨P5, A5, x5, o5, r5, n5⟩ := step_frz x4 o4 r4 d4 n4 hf
                -- all the way
                have x35 := x3.trans x5 n3
                have n35 := n3.trans n5 x3.there
                have xA : Ext A P H' P5 H4 := x35.mono x2
                obtain ⟨A6, o6, s6⟩ := o5.wipe t.slots
                have n6 : New A H' A6 := fun a ha => (n35 a (s6.subset ha)).imp (x2 a) id
                rw [ws] at o6
                have st6 := st.go hD xA o6 n6
                obtain ⟨vs6, e6, r6⟩ := st6.hD
                refine ⟨vs6, e6, by rw [← r6.length]; exact hz, by omega, P5, wipeR ρ5 t.slots, A6, acc ++ [d5], ⟨?_, o6.upd _ st6.pD st6.ndD (by rw [e6]; simp), st6.ndD, st6.new, st6.pD, _, upd_same, r6.append (.cons r5 .nil)⟩, ?_, hrun⟩
                · refine st6.ext.trans (ext_upd (A := [D]) _ st6.pD (by simp) (by rw [e6]; simp)) fun a ha => .inl ?_
                  rw [List.mem_singleton.mp ha]; simp
                · have l1 := o6.len
                  have l2 := o1.len
                  rw [wipe_length] at l1
                  omega
          subst hcond
          cases cnd with
          | none =>
            have q := elt P H' A2 ρb .refl o2 .refl rfl
            simp only [ttC, tYes]
            exact q
          | some g =>
            show tB (tE noWish g) σ2 H' _
            try simp only [condC] at hrun
            refine ⟨P, ρb, A2, o2, ?_⟩
            cases hg : g ρb with
            | bad => simp only [hg, kTst] at hrun; cases hrun
            | exc _ _ => simp only [hg, kTst] at hrun; cases hrun
            | ok z ρ3 =>
              intro P3 H3 A3 B3 v3 x3 o3 r3 d3 n3
              cases hk : look z ρ3 with
              | none => simp only [hg, kTst, hk] at hrun; cases hrun
              | some d3' =>
                have vd := o3.vw r3 hk
                cases d3' with
                | bool b =>
                  have e3 := vw_bool vd
                  subst e3
                  refine ⟨b, rfl, ?_⟩
                  cases b with
                  | true =>
                    rw [if_pos rfl]
                    exact elt P3 H3 A3 ρ3 x3 o3 n3.left (by simp only [condC, hg, kTst, hk, cond_true])
                  | false =>
                    rw [if_neg Bool.false_ne_true]
                    simp only [hg, kTst, hk, none1, cond_false] at hrun
                    have xA : Ext A P H' P3 H3 := x3.mono x2
                    obtain ⟨A6, o6, s6⟩ := o3.wipe t.slots
                    have n6 : New A H' A6 := fun a ha => (n3.left a (s6.subset ha)).imp (x2 a) id
                    rw [ws] at o6
                    refine ⟨by omega, P3, wipeR ρ3 t.slots, A6, acc, st.go hD xA o6 n6, ?_, hrun⟩
                    have l1 := o6.len
                    have l2 := o1.len
                    rw [wipe_length] at l1
                    omega
                | _ => simp only [hg, kTst, hk] at hrun; cases hrun
      · have e : i = ds.length := by omega
        subst e
        rw [List.drop_length] at hrun
        cases hrun
        refine .inl ⟨by rw [lv]; exact wk.stop H kp, ?_⟩
        obtain ⟨vsE, eE, rE⟩ := st.hD
        have bk : ∀ j ∈ t.slots, ∀ z, σ[j]? = some z → SlotOk P H [] (slot ρ1 j) z := fun j hj z hz => by
          have fr := (Bool.and_eq_true_iff.mp (List.all_eq_true.mp free j hj)).2
          cases hsl : slot ρ1 j with
          | none => rfl
          | some o =>
            rw [hsl] at fr
            cases o with
            | val d =>
              obtain ⟨v, B1, B, B2, ev, _, ro, _⟩ := o1.sl.at' hsl
              rw [hz] at ev
              cases ev
              exact ⟨v, rfl, rfl, RD.keep st.ext.keep _ _ ro.2⟩
            | lst _ => cases fr
            | dct _ => cases fr
        obtain ⟨A', o', s'⟩ := Ok.back (ρ0 := ρ1) nd st.ok bk
        refine out P H A' [D] (.ref D) ?_ o' ⟨D, vsE, rfl, rfl, eE, st.pD, rE⟩ ?_ ?_
        · refine ⟨st.ext.keep, fun a u e ha hp => st.ext.kept a u e (fun q => ?_) hp, fun a q => ?_, st.ext.there⟩
          · rcases List.mem_cons.mp q with z | z
            · subst z; rw [hD] at e; cases e
            · exact ha z
          · rcases st.ext.from_ a q with z | z | z
            · exact .inl z
            · rcases List.mem_cons.mp z with z | z
              · subst z; exact .inr (.inr hD)
              · exact .inr (.inl z)
            · exact .inr (.inr z)
        · refine List.nodup_append.mpr ⟨o'.nd, by simp, fun a ha b hb q => ?_⟩
          rw [List.mem_singleton.mp hb] at q
          subst q
          exact st.ndD (s'.subset ha)
        · intro a ha
          rcases List.mem_append.mp ha with q | q
          · exact st.new a (s'.subset q)
          · rw [List.mem_singleton.mp q]; exact .inr hD
end SW

set_option Elab.async false
set_option linter.all false
set_option maxRecDepth 100000
set_option maxHeartbeats 2000000
/-! slices, built-in functions, methods -/
namespace SW
open PySem PySem.Spec L2
open PyProof.Rows hiding St
theorem imp_PO {X : Cx} {e : Option Expr} {t t' : TO} (h : PO X e t) (q : ∀ σ H Q, t' σ H Q → t σ H Q) : PO X e t' := ⟨fun pins s σ H Q I w => h.run pins s σ H Q I (q _ _ _ w)⟩
def RPt : Rel (Option Int) (Option Int) := fun P H σ ρ B o o' => B = [] ∧ o' = o
section
variable {Wx : Wish} {σ : St} {H : Hp} {Q : VK} {X : Cx}
theorem po_none' : PO X none (tG Wx RPt fun ρ => .ok none ρ) := by
  refine imp_PO po_none fun σ H Q h => ?_
  obtain ⟨P, ρ, A, ok, out⟩ := h
  dsimp only at out
  exact out.here ok ⟨rfl, rfl⟩
theorem po_some' {e : Expr} {g : Rho → R SW.A} (h : PE X e (tE Wx g)) : PO X (some e) (tG Wx RPt fun ρ => kLook fPart (g ρ)) := by
  refine imp_PO (po_some h) fun σ H Q h => ?_
  refine im_look h fun P1 H1 ρ1 A1 d v o1 vd out => ?_
  cases d with
  | int i => exact ⟨i, vw_int vd, out.here o1 ⟨rfl, rfl⟩⟩
  | _ => exact out.elim
theorem im_slc {ga : Rho → R SW.A} {el eh : Rho → R (Option Int)} (h : tE Wx (fun ρ => kSlc1 el eh (ga ρ)) σ H Q) : tSl (rSlD Wx) (tE Wx ga) (tG Wx RPt el) (tG Wx RPt eh) σ H Q := by
  obtain ⟨P, ρ, A, ok, out⟩ := h
  dsimp only at out
  refine ⟨P, ρ, A, ok, ?_⟩
  cases e : ga ρ with
  | bad => rw [e] at out; exact out.elim
  | exc ex ρ1 => rw [e] at out; exact out
  | ok x ρ1 =>
    rw [e] at out
    intro P1 H1 A1 B1 v1 x1 o1 r1 d1 n1
    refine ⟨P1, ρ1, A1, o1, ?_⟩
    have out : Out Wx RA σ P H A (kSlc2 eh x (el ρ1)) Q := out
    cases e2 : el ρ1 with
    | bad => rw [e2] at out; exact out.elim
    | exc ex ρ2 => rw [e2] at out; exact Out.shift (L := RA) (r := (.exc ex ρ2 : R SW.A)) (Q := Q) out x1 n1.left
    | ok lo ρ2 =>
      rw [e2] at out
      intro P2 H2 A2 B2 v2 x2 o2 r2 d2 n2
      obtain ⟨_, e3⟩ := r2
      subst e3
      refine ⟨P2, ρ2, A2, o2, ?_⟩
      have x02 := x1.trans x2 n1.left
      have n02 := n1.left.trans n2.left x1.there
      have r1' := r1.ext (ρ' := ρ2) x2 (apart d1)
      have out : Out Wx RA σ P H A (kSlc3 x v2 (eh ρ2)) Q := out
      cases e4 : eh ρ2 with
      | bad => rw [e4] at out; exact out.elim
      | exc ex ρ3 => rw [e4] at out; exact Out.shift (L := RA) (r := (.exc ex ρ3 : R SW.A)) (Q := Q) out x02 n02
      | ok hi ρ3 =>
        rw [e4] at out
        intro P3 H3 A3 B3 v3 x3 o3 r3 d3 n3
        obtain ⟨_, e5⟩ := r3
        subst e5
        have d3' : ∀ a ∈ B1, a ∉ A2 := fun a ha hq => by
          rcases n2.left a hq with w | w
          · exact apart d1 a ha w
          · exact (r1.there a ha).2 w
        have r1'' := r1'.ext (ρ' := ρ3) x3 d3'
        cases l : look x ρ3 with
        | none => simp only [kSlc3, l] at out; exact out.elim
        | some d =>
          simp only [kSlc3, l] at out
          exact ⟨P3, σ, ρ3, A3, d, o3, o3.vw r1'' l, out.shift (x02.trans x3 n02) (n02.trans n3.left x02.there)⟩
/-- a built-in function of one value -/
theorem im_blt {f : D → Rho → R SW.A} {g : Rho → R SW.A} (h : tE Wx (fun ρ => kLook f (g ρ)) σ H Q) : tCB (rB1 Wx f) (tCons (tE Wx g) tNil) σ H Q :=
  im_look h fun P1 H1 ρ1 A1 d v o1 vd out => ⟨v, rfl, P1, σ, ρ1, A1, d, o1, vd, out⟩

/-! ### isinstance -/
abbrev tys : List String := ["str", "int", "bool", "tuple", "list", "dict"]
theorem kit_isiAny {K : PySem.W.Frag} (d : D) : ∀ ts : List String, (∀ t ∈ ts, t ∈ tys) → PySem.W.kitAny K (.type (tyName d)) (ts.map Value.type) = some (isiAny d ts)
  | [], _ => rfl
  | t :: ts, h => by
    have e : isiAny d (t :: ts) = (isi1 d t || isiAny d ts) := List.any_cons
    refine kitAny_cons (kit_isi1 d t (h t (by simp))) (fun q => ?_) fun q => ?_
    · rw [e, q, Bool.false_or]
      exact kit_isiAny d ts fun u hu => h u (by simp [hu])
    · rw [e, q, Bool.true_or]
theorem kit_vw {pins : List (Addr × Obj)} {σ : St} {H P : Hp} {s : Shared} {x : V} {u : Value} {d : D} (I : Inv X pins σ H s) (sub : ∀ a o, P a = some o → H a = some o) (rx : RelV x u) (vd : Vw P H d x) :
    ∃ Z : Heap → Prop, PySem.W.KitX X.K u (.type (tyName d)) Z ∧ Z s.heap ∧ u ≠ .builtin "__main__.__loader__#opaque" := by
  by_cases q : ∃ (a : Addr) (o : Obj) (ts : List (List Key × V)), x = .ref a ∧ H a = some (.frz o (.dT ts))
  · obtain ⟨a, o, ts, rfl, hf⟩ := q
    cases d with
    | dict kvs =>
      cases (show u = Value.ref a from rx)
      obtain ⟨_, _, xs, _, dd⟩ := dt_rd I.hok (.inr ⟨o, hf⟩)
      obtain ⟨ob, _, _, h1, h2, _⟩ := dd
      exact ⟨_, PySem.W.kitx_dict, ⟨ob, h1, h2.1⟩, fun z => nomatch z⟩
    | list ds =>
      obtain ⟨b, vs, e, h1 | ⟨o', h1⟩, _⟩ := vd
      · cases e; rw [hf] at h1; cases h1
      · cases e; rw [hf] at h1; cases h1
    | tuple ds =>
      obtain ⟨b, vs, e, _, h1, _⟩ := vw_tup sub vd
      cases e; rw [hf] at h1; cases h1
    | none => exact nomatch vw_none vd
    | bool _ => exact nomatch vw_bool vd
    | int _ => exact nomatch vw_int vd
    | str _ => exact nomatch vw_str vd
  · exact kit_of I rx (vw_ty sub vd fun a o ts e hf => q ⟨a, o, ts, e, hf⟩)
def rIsi1 (Wx : Wish) (t : String) : List V → Hp → VK → Prop := fun xs H Q => ∃ x, xs = [x, .ty t] ∧ rD1 Wx (fIsi [t]) x H Q
theorem cr_isi1 {t : String} (ht : t ∈ tys) : CallR X (.builtin "isinstance") (rIsi1 Wx t) := by
  intro pins s σ0 H xs us Q I r h
  obtain ⟨x, rfl, P, σ, ρ, A, d, ok, vd, out⟩ := h
  obtain ⟨u1, u2, rfl, r1, r2⟩ := vals2 r
  cases (show u2 = Value.type t from r2)
  obtain ⟨Z, z, p, hx⟩ := kit_vw I ok.sub r1 vd
  have e := kit_isi1 (K := X.K) d t ht
  have e2 : isiAny d [t] = isi1 d t := by simp [isiAny]
  have out : Out Wx RA σ P H A (.ok (.vl (.val (.bool (isiAny d [t])))) ρ) Q := out
  rw [e2] at out
  exact PySem.W.kia_one z I.kIn p e hx fun tk => ⟨.bl (isi1 d t), H, I.tok tk, rfl, out.bool ok⟩
def rIsiN (Wx : Wish) (ts : List String) : List V → Hp → VK → Prop := fun xs H Q => ∃ x tp, xs = [x, .ref tp] ∧ H tp = some (.tup (ts.map V.ty)) ∧ rD1 Wx (fIsi ts) x H Q
theorem vals_ty : ∀ {ts : List String} {us : List Value}, Vals (ts.map V.ty) us → us = ts.map Value.type
  | [], _, .nil => rfl
  | t :: ts, _, .cons r h => by
    rw [vals_ty h, List.map_cons]
    rw [show _ = Value.type t from r]
theorem cr_isiN {ts : List String} (ht : ∀ t ∈ ts, t ∈ tys) : CallR X (.builtin "isinstance") (rIsiN Wx ts) := by
  intro pins s σ0 H xs us Q I r h
  obtain ⟨x, tp, rfl, hT, P, σ, ρ, A, d, ok, vd, out⟩ := h
  obtain ⟨u1, u2, rfl, r1, r2⟩ := vals2 r
  cases (show u2 = Value.ref tp from r2)
  obtain ⟨Z, z, p, hx⟩ := kit_vw I ok.sub r1 vd
  obtain ⟨_, its, rv, o, h1, h2, n, h3⟩ := (show ObjOk X.prog X.w H s.heap tp (.tup _) from I.hok tp _ hT)
  have e3 := vals_ty rv
  subst e3
  obtain ⟨oc, od, dt, sl⟩ := o
  simp only at h2 h3
  subst h2 h3
  exact PySem.W.kia_tup z I.kIn p h1 (kit_isiAny d ts ht) hx fun tk => ⟨.bl (isiAny d ts), H, I.tok tk, rfl, out.bool ok⟩
theorem im_isi1 {t : String} {g : Rho → R SW.A} (h : tE Wx (fun ρ => kLook (fIsi [t]) (g ρ)) σ H Q) : tCB (rIsi1 Wx t) (tCons (tE Wx g) (tCons (tC (.ty t)) tNil)) σ H Q :=
  im_look h fun P1 H1 ρ1 A1 d v o1 vd out => ⟨v, rfl, P1, σ, ρ1, A1, d, o1, vd, out⟩
def tTys : List String → TA
  | [] => tNil
  | t :: ts => tCons (tC (.ty t)) (tTys ts)
theorem tTys_run : ∀ {ts : List String} {H : Hp} {Q : List V → Hp → Prop}, Q (ts.map V.ty) H → tTys ts σ H Q
  | [], _, _, h => h
  | t :: ts, H, Q, h => tTys_run (ts := ts) (Q := fun xs H2 => Q (V.ty t :: xs) H2) h
theorem Vw.new {P H : Hp} {p : Addr} (o : HO) (hp : H p = none) (sub : ∀ a o, P a = some o → H a = some o) {d : D} {v : V} (h : Vw P H d v) : Vw P (upd H p o) d v := by
  have up : ∀ a u, H a = some u → upd H p o a = some u := fun a u e => by rw [upd_ne (fun z => by subst z; rw [hp] at e; cases e)]; exact e
  have k := Keep.of_le up
  cases d with
  | list ds =>
    obtain ⟨a, vs, e, h1, h2⟩ := h
    exact ⟨a, vs, e, k.rd _ _ h1, h2⟩
  | dict kvs =>
    obtain ⟨a, e, ⟨ks, h1, h2⟩ | ⟨ts, h1, h2⟩⟩ := h
    · exact ⟨a, e, .inl ⟨ks, k.rd _ _ h1, h2⟩⟩
    · exact ⟨a, e, .inr ⟨ts, k.rd _ _ h1, h2⟩⟩
  | _ => exact h
theorem im_isiN {ts : List String} (hn : ts.length ≤ 1000) {g : Rho → R SW.A} (h : tE Wx (fun ρ => kLook (fIsi ts) (g ρ)) σ H Q) : tCB (rIsiN Wx ts) (tCons (tE Wx g) (tCons (tTup (tTys ts)) tNil)) σ H Q := by
  refine im_look h fun P1 H1 ρ1 A1 d v o1 vd out => ?_
  refine tTys_run ⟨by rw [List.length_map, sizeLine_eq]; omega, fun p hp => ?_⟩
  exact ⟨v, p, rfl, upd_same, P1, σ, ρ1, A1, d, o1.new _ hp, vd.new _ hp o1.sub, out.shift (ext_new _ hp o1.sub) .refl⟩

/-! ### methods -/
inductive TyIs (K : PySem.W.Frag) (H : Hp) : String → V → Prop where
  | str (x : Str) : TyIs K H "str" (.str x)
  | lst {a : Addr} {xs : List V} (h : SqL K H a xs) : TyIs K H "list" (.ref a)
  | dct {a : Addr} (h : IsD H a) : TyIs K H "dict" (.ref a)
theorem tyIs_ok {pins : List (Addr × Obj)} {σ : St} {H : Hp} {s : Shared} {T : String} {x : V} {v : Value} (I : Inv X pins σ H s) (r : RelV x v) (ty : TyIs X.K H T x) :
    s.TypeIs v T ∧ ∀ a, v = .ref a → ∃ ob, s.heap.get? a = some ob ∧ ob.dict = none := by
  cases ty with
  | str x => exact tyV_is I r (rfl : tyV X.K "str" (.str x) H)
  | lst h => exact tyV_is I r (.inl ⟨rfl, _, h⟩ : tyV X.K "list" (.ref _) H)
  | dct h =>
    cases r
    obtain ⟨h1, h2, _⟩ := isD_at I h
    exact ⟨h1, h2⟩
theorem noStar_tail {e : Expr} {es : List Expr} (h : noStar (e :: es) = true) : noStar es = true := by
  cases e <;> first | exact h | cases h
theorem star_cons {e : Expr} {es : List Expr} {env : Env} (h : noStar (e :: es) = true) : starEach (e :: es) env = (false, eval e env) :: starEach es env := by
  cases e <;> first | rfl | cases h
theorem plain_star {env : Env} {pos : Pos} : ∀ {es : List Expr}, noStar es = true → (backTo pos (starEach es env)).any (·.1) = false
  | [], _ => rfl
  | e :: es, h => by
    rw [star_cons h]
    show (false || (backTo pos (starEach es env)).any (·.1)) = false
    rw [plain_star (noStar_tail h), Bool.false_or]
theorem few_star {env : Env} {pos : Pos} : ∀ {es : List Expr}, noStar es = true → (backTo pos (starEach es env)).all (fun x => !x.1) = true
  | [], _ => rfl
  | e :: es, h => by
    rw [star_cons h]
    show (true && (backTo pos (starEach es env)).all (fun x => !x.1)) = true
    rw [few_star (noStar_tail h), Bool.true_and]
theorem base_plain {o : Expr} {m : Str} {env : Env} {t : Sem Value} (h : plainBase o = true) : attributeBase o m env t = t := by
  unfold attributeBase
  split
  · cases h
  · rfl
def tMth (K : PySem.W.Frag) (T : String) (r : V → List V → Hp → VK → Prop) (to : TE) (t : TA) : TE := fun σ H Q => to σ H fun x H1 => TyIs K H1 T x ∧ t σ H1 fun xs H2 => r x xs H2 Q
theorem pe_mth {o : Expr} {es : List Expr} {to : TE} {t : TA} {name : Str} {apos cpos : Pos} {T id : String} {r : V → List V → Hp → VK → Prop} (pa : PlainAttrs T) (slot : Slot T name id) (hty : typeOf (.builtin id) = pure (.type "method_descriptor")) (hm : MtR X id r) (ho : PE X o to) (ha : PA X es t)
    (hb : plainBase o = true) (hs : noStar es = true) (hl : es.length ≤ 3) (h0 : es = [] → ∀ σ H Q, t σ H Q → Q [] H) (hline : (apos.endLine == cpos.line) = true) :
    PE X (.Call (.Attribute o name apos) es [] cpos) (tMth X.K T r to t) := by
  refine ⟨fun pins s σ H Q I h => ?_⟩
  have hfew : ((backTo cpos (starEach es X.env)).all (fun x => !x.1) && (backToKw cpos (keywordEach [] X.env)).all (fun x => x.1.isSome)
      && decide (es.length + ([] : List Keyword).length + (if ([] : List Keyword).isEmpty then 0 else 1) < 30)) = true := by
    rw [few_star hs]
    show (true && decide (es.length + 0 + 0 < 30)) = true
    rw [Bool.true_and]
    exact decide_eq_true (by omega)
  refine wpAny_Call_method_late (base_plain hb) hfew hline rfl (thn (ho.run pins s σ H _ I h) fun v s1 ⟨x, H1, I1, r1, ty, q1⟩ => ?_)
  obtain ⟨h1, h2⟩ := tyIs_ok I1 r1 ty
  refine ⟨T, id, pa, slot, hty, h1, h2, ?_⟩
  have hA := ha.run cpos pins s1 σ H1 _ I1 q1
  cases es with
  | nil =>
    exact Calls.callWith_builtin rfl (PySem.evalArgs_none (hm pins s1 σ H1 x [] v [] Q I1 r1 .nil (h0 rfl _ _ _ q1)))
  | cons e es =>
    refine Calls.callWith_builtin (plain_star hs) ?_
    rw [star_cons hs] at hA ⊢
    exact Calls.evalArgs_plain (thn hA fun us s2 ⟨vs, H2, I2, r2, q2⟩ => hm pins s2 σ H2 x vs v us Q I2 r1 r2 q2)
end
end SW

set_option Elab.async false
set_option linter.all false
set_option maxRecDepth 100000
set_option maxHeartbeats 2000000
/-! methods that change nothing; methods that change a name's list -/
namespace SW
open PySem PySem.Spec L2
open PyProof.Rows hiding St
section
variable {Wx : Wish} {σ : St} {H : Hp} {Q : VK} {X : Cx}
def mthId : Mth → String
  | .get1 => "dict.get"
  | .get2 => "dict.get"
  | .join => "str.join"
  | .upper => "str.upper"
def rMth (Wx : Wish) (m : Mth) : V → List V → Hp → VK → Prop := fun x xs H Q => ∃ P σ ρ A d ds, Ok P H σ ρ A ∧ Vw P H d x ∧ RDs P ds xs ∧ Out Wx RA σ P H A (rO (mthD m d ds) ρ) Q
theorem getD_rel {P : Hp} {d0 : D} {v0 : V} (r0 : RD P d0 v0) {kvs : List (D × D)} {k : D} {o : Option V} (w : (dget kvs k = none ∧ o = none) ∨ ∃ d v, dget kvs k = some d ∧ o = some v ∧ RD P d v) : RD P ((dget kvs k).getD d0) (o.getD v0) := by
  rcases w with ⟨e1, e2⟩ | ⟨d, v, e1, e2, e3⟩
  · rw [e1, e2]; exact r0
  · rw [e1, e2]; exact e3
theorem two_inv {P : Hp} {a b : D} {xs : List V} (h : RDs P [a, b] xs) : ∃ v w, xs = [v, w] ∧ RD P a v ∧ RD P b w := by
  obtain ⟨v, t, rfl, h1, h2⟩ := h.inv
  obtain ⟨w, t2, rfl, h3, h4⟩ := h2.inv
  rw [h4.nil_inv]
  exact ⟨v, w, rfl, h1, h3⟩
theorem one_inv {P : Hp} {a : D} {xs : List V} (h : RDs P [a] xs) : ∃ v, xs = [v] ∧ RD P a v := by
  obtain ⟨v, t, rfl, h1, h2⟩ := h.inv
  rw [h2.nil_inv]
  exact ⟨v, rfl, h1⟩
theorem join_out {P : Hp} {ρ : Rho} {A : List Addr} {y : Str} {ds : List D} {x : V} {xs : List V} (ok : Ok P H σ ρ A) (vs : List V) (rs : RDs P ds vs) (out : Out Wx RA σ P H A (rO (mthD.joined y ds) ρ) Q) :
    ∃ ys : List Str, vs = ys.map V.str ∧ (ys.map (·.length)).sum + ys.length * y.length ≤ 16777216 ∧ Q (.str (Txt.join y ys)) H := by
  unfold mthD.joined at out
  cases e : strsOf ds with
  | none => rw [e] at out; exact out.elim
  | some ys =>
    rw [e] at out
    dsimp only at out
    split at out
    · rename_i hz
      refine ⟨ys, rs.strs e, ?_, out.str ok⟩
      unfold joinLen at hz
      rw [sizeLine_eq] at hz
      exact hz
    · exact out.elim
theorem mt_D (hu : X.A.units + 65 < cLine) (m : Mth) : MtR X (mthId m) (rMth Wx m) := by
  intro pins s σ0 H x xs v us Q I rx rs h
  obtain ⟨P, σ, ρ, A, d, ds, ok, vd, rd, out⟩ := h
  cases m with
  | get1 =>
    cases d with
    | dict kvs =>
      match ds, rd, out with
      | [k], rd, out =>
        have out : Out Wx RA σ P H A (rO (if keyFits kvs k = true then some (.val ((dget kvs k).getD .none)) else none) ρ) Q := out
        split at out
        · rename_i hk
          obtain ⟨y, rfl, ry⟩ := one_inv rd
          obtain ⟨a, o, rfl, g, w⟩ := dict_at ok.sub vd hk (RD.vw ok.sub ry)
          obtain ⟨u, rfl, ru⟩ := vals1 rs
          cases (show v = Value.ref a from rx)
          exact dg_get1 (by omega) I g ru fun w' s' I' rw' => ⟨_, H, I', rw', out.val ok (getD_rel rd_none w)⟩
        · exact out.elim
      | [], _, out => exact out.elim
      | _ :: _ :: _, _, out => exact out.elim
    | _ => exact out.elim
  | get2 =>
    cases d with
    | dict kvs =>
      match ds, rd, out with
      | [k, z], rd, out =>
        have out : Out Wx RA σ P H A (rO (if keyFits kvs k = true then some (.val ((dget kvs k).getD z)) else none) ρ) Q := out
        split at out
        · rename_i hk
          obtain ⟨y, yz, rfl, ry, rz⟩ := two_inv rd
          obtain ⟨a, o, rfl, g, w⟩ := dict_at ok.sub vd hk (RD.vw ok.sub ry)
          obtain ⟨u, u2, rfl, ru, ru2⟩ := vals2 rs
          cases (show v = Value.ref a from rx)
          exact dg_get2 (by omega) I g ru ru2 fun w' s' I' rw' => ⟨_, H, I', rw', out.val ok (getD_rel rz w)⟩
        · exact out.elim
      | [], _, out => exact out.elim
      | [_], _, out => exact out.elim
      | _ :: _ :: _ :: _, _, out => exact out.elim
    | _ => exact out.elim
  | join =>
    cases d with
    | str y =>
      have ey := vw_str vd
      subst ey
      match ds, rd, out with
      | [.list es], rd, out =>
        obtain ⟨p, rfl, rp⟩ := one_inv rd
        rw [RD] at rp
        obtain ⟨a, vs, rfl, h1, h2⟩ := rp
        obtain ⟨ys, rfl, hz, q⟩ := join_out (x := .non) (xs := []) ok vs h2 out
        exact mt_join pins s σ0 H _ _ v us Q I rx rs ⟨y, a, ys, rfl, rfl, .inl (.inl ((Keep.of_le ok.sub).rd _ _ h1)), hz, q⟩
      | [.tuple es], rd, out =>
        obtain ⟨p, rfl, rp⟩ := one_inv rd
        rw [RD] at rp
        obtain ⟨a, vs, rfl, h1, h2⟩ := rp
        obtain ⟨ys, rfl, hz, q⟩ := join_out (x := .non) (xs := []) ok vs h2 out
        exact mt_join pins s σ0 H _ _ v us Q I rx rs ⟨y, a, ys, rfl, rfl, .inr (.of (ok.sub _ _ h1)), hz, q⟩
      | [], _, out => exact out.elim
      | [.none], _, out => exact out.elim
      | [.bool _], _, out => exact out.elim
      | [.int _], _, out => exact out.elim
      | [.str _], _, out => exact out.elim
      | [.dict _], _, out => exact out.elim
      | z1 :: _ :: _, _, out => cases z1 <;> exact out.elim
    | _ => exact out.elim
  | upper =>
    cases d with
    | str y =>
      have ey := vw_str vd
      subst ey
      match ds, rd, out with
      | [], rd, out =>
        have out : Out Wx RA σ P H A (rO (if y.length ≤ 5592405 then some (.val (.str (Txt.upper y))) else none) ρ) Q := out
        split at out
        · rename_i hz
          cases rd.nil_inv
          exact mt_upper pins s σ0 H _ _ v us Q I rx rs ⟨y, rfl, rfl, hz, out.str ok⟩
        · exact out.elim
      | _ :: _, _, out => exact out.elim
    | _ => exact out.elim
theorem im_mth {K : PySem.W.Frag} {m : Mth} {go : Rho → R SW.A} {gs : Rho → R (List D)} (h : tE Wx (fun ρ => kMth1 m gs (go ρ)) σ H Q) : tMth K (mthTy m) (rMth Wx m) (tE Wx go) (tVs Wx gs) σ H Q := by
  obtain ⟨P, ρ, A, ok, out⟩ := h
  dsimp only at out
  refine ⟨P, ρ, A, ok, ?_⟩
  cases e : go ρ with
  | bad => rw [e] at out; exact out.elim
  | exc ex ρ1 => rw [e] at out; exact out
  | ok x ρ1 =>
    rw [e] at out
    intro P1 H1 A1 B1 v1 x1 o1 r1 d1 n1
    cases l : look x ρ1 with
    | none => simp only [kMth1, l] at out; exact out.elim
    | some d =>
      simp only [kMth1, l] at out
      split at out
      case isFalse => exact out.elim
      rename_i ht
      have vd := o1.vw r1 l
      refine ⟨?_, P1, ρ1, A1, o1, ?_⟩
      · rw [← ht]
        cases d with
        | str z => rw [vw_str vd]; exact .str z
        | dict kvs =>
          obtain ⟨a, rfl, ⟨ks, h1, _⟩ | ⟨ts, h1, _⟩⟩ := vd
          · exact .dct (.inl ⟨_, h1⟩)
          · exact .dct (.inr ⟨_, h1⟩)
        | list ds =>
          obtain ⟨a, vs, rfl, h1, _⟩ := vd
          exact .lst (.inl h1)
        | _ => exact absurd ht (by cases m <;> simp [tyName, mthTy])
      · cases e2 : gs ρ1 with
        | bad => rw [e2] at out; exact out.elim
        | exc ex ρ2 => rw [e2] at out; exact Out.shift (L := RA) (r := (.exc ex ρ2 : R SW.A)) (Q := Q) out x1 n1.left
        | ok ds ρ2 =>
          rw [e2] at out
          intro P2 H2 A2 B2 v2 x2 o2 r2 d2 n2
          obtain ⟨_, r2⟩ := r2
          have r1' := r1.ext (ρ' := ρ2) x2 (apart d1)
          have out : Out Wx RA σ P H A (match look x ρ2 with
            | some d => rO (mthD m d ds) ρ2
            | none => .bad) Q := out
          cases l2 : look x ρ2 with
          | none => rw [l2] at out; exact out.elim
          | some d' =>
            rw [l2] at out
            exact ⟨P2, σ, ρ2, A2, d', ds, o2, o2.vw r1' l2, r2, out.shift (x1.trans x2 n1.left) (n1.left.trans n2.left x1.there)⟩

/-! ### a name's own list or dict, changed -/
theorem ok_own {P : Hp} {ρ : Rho} {A : List Addr} (ok : Ok P H σ ρ A) {i : Nat} {o : O} (hs : slot ρ i = some o) (hv : isVal o = false) :
    ∃ a, σ[i]? = some (some (.ref a)) ∧ RO P H [a] o (.ref a) ∧ ∀ o' u, RO P (upd H a u) [a] o' (.ref a) → Ext A P H P (upd H a u) ∧ Ok P (upd H a u) σ (ρ.set i (some o')) A := by
  obtain ⟨v, A1, B, A2, e1, rfl, q, up⟩ := ok.sl.at' hs
  have key : ∃ a, v = .ref a ∧ B = [a] ∧ P a = none ∧ H a ≠ none := by
    have th := q.there
    cases o with
    | val d => cases hv
    | lst ds =>
      obtain ⟨a, vs, e, rfl, _⟩ := q
      exact ⟨a, e, rfl, th a (by simp)⟩
    | dct kvs =>
      obtain ⟨a, e, rfl, _⟩ := q
      exact ⟨a, e, rfl, th a (by simp)⟩
  obtain ⟨a, rfl, rfl, pa, ha⟩ := key
  refine ⟨a, e1, q, fun o' u r => ?_⟩
  have x : ∀ X : List Addr, a ∈ X → Ext X P H P (upd H a u) := fun X hX => ext_upd u pa hX ha
  obtain ⟨n1, n2, _⟩ := nodup_mid ok.nd
  refine ⟨x _ (by simp), fun b z e => ?_, ?_, ok.nd⟩
  · rw [upd_ne (fun w => by subst w; rw [pa] at e; cases e)]
    exact ok.sub b z e
  · exact up [a] P _ (x _ (by simp)) n2 (some o') [a] ⟨_, rfl, r⟩
theorem ok_ownL {P : Hp} {ρ : Rho} {A : List Addr} (ok : Ok P H σ ρ A) {i : Nat} {ds : List D} (hs : slot ρ i = some (.lst ds)) :
    ∃ a vs, σ[i]? = some (some (.ref a)) ∧ H a = some (.lst vs) ∧ RDs P ds vs ∧ ∀ ds' vs', RDs P ds' vs' → Ext A P H P (upd H a (.lst vs')) ∧ Ok P (upd H a (.lst vs')) σ (ρ.set i (some (.lst ds'))) A := by
  obtain ⟨a, e, q, k⟩ := ok_own ok hs rfl
  obtain ⟨b, vs, e1, e2, h1, h2, h3⟩ := q
  cases e1
  exact ⟨a, vs, e, h1, h3, fun ds' vs' r => k _ _ ⟨a, vs', rfl, rfl, upd_same, h2, r⟩⟩
def mutId : Mut → String
  | .append => "list.append"
  | .pop0 => "list.pop"
  | .popAt => "list.pop"
def rMut (Wx : Wish) (m : Mut) (i : Nat) : V → List V → Hp → VK → Prop := fun x xs H Q => ∃ P σ ρ A zs ds, Ok P H σ ρ A ∧ σ[i]? = some (some x) ∧ slot ρ i = some (.lst zs) ∧ RDs P ds xs ∧ ∃ y zs', mutD m zs ds = some (y, zs') ∧ Out Wx RA σ P H A (.ok (.vl (.val y)) (ρ.set i (some (.lst zs')))) Q
theorem mt_mut {i : Nat} (m : Mut) : MtR X (mutId m) (rMut Wx m i) := by
  intro pins s σ0 H x xs v us Q I rx rs h
  obtain ⟨P, σ, ρ, A, zs, ds, ok, hx, hs, rd, y, zs', hm, out⟩ := h
  obtain ⟨a, vs, e1, h1, h2, k⟩ := ok_ownL ok hs
  rw [hx] at e1
  cases e1
  have fin : ∀ w vs', RDs P zs' vs' → RD P y w → Q w (upd H a (.lst vs')) := fun w vs' r ry => by
    obtain ⟨x', o'⟩ := k _ _ r
    exact (out.shift x' .refl).val o' ry
  cases m with
  | append =>
    match ds, rd, hm with
    | [d], rd, hm =>
      have hm : (if zs.length < sizeLine then some (PyData.none, zs ++ [d]) else none) = some (y, zs') := hm
      split at hm
      · rename_i hz
        cases hm
        obtain ⟨w, rfl, rw'⟩ := one_inv rd
        exact mt_append pins s σ0 H _ _ v us Q I rx rs ⟨a, vs, w, rfl, rfl, h1, by rw [← h2.length]; exact hz, fin _ _ (h2.append (.cons rw' .nil)) rd_none⟩
      · cases hm
    | [], _, hm => cases hm
    | _ :: _ :: _, _, hm => cases hm
  | pop0 =>
    match ds, rd, hm with
    | [], rd, hm =>
      have hm : ((zs[zs.length - 1]?).map fun y => (y, zs.dropLast)) = some (y, zs') := hm
      obtain ⟨y', e, e2⟩ := map_some hm
      cases e2
      obtain ⟨w, e3, rw'⟩ := h2.get e
      cases rd.nil_inv
      exact mt_pop pins s σ0 H _ _ v us Q I rx rs ⟨a, vs, w, rfl, rfl, h1, by rw [← h2.length]; exact e3, fin _ _ h2.dropLast rw'⟩
    | _ :: _, _, hm => cases hm
  | popAt =>
    match ds, rd, hm with
    | [.int j], rd, hm =>
      have hm : (if -(2 ^ 63) ≤ j ∧ j < 2 ^ 63 then (seqIndex? j zs.length).bind fun k => (zs[k]?).map fun y => (y, zs.eraseIdx k) else none) = some (y, zs') := hm
      split at hm
      · rename_i hz
        obtain ⟨n, e, e2⟩ := Option.bind_eq_some_iff.mp hm
        obtain ⟨y', e3, e4⟩ := map_some e2
        cases e4
        obtain ⟨w, e5, rw'⟩ := h2.get e3
        obtain ⟨z, rfl, rz⟩ := one_inv rd
        rw [RD] at rz
        subst rz
        exact mt_popAt pins s σ0 H _ _ v us Q I rx rs ⟨a, vs, j, n, w, rfl, rfl, h1, hz.1, hz.2, by rw [← h2.length]; exact e, e5, fin _ _ (h2.eraseIdx n) rw'⟩
      · cases hm
    | [], _, hm => cases hm
    | [.none], _, hm => cases hm
    | [.bool _], _, hm => cases hm
    | [.str _], _, hm => cases hm
    | [.list _], _, hm => cases hm
    | [.tuple _], _, hm => cases hm
    | [.dict _], _, hm => cases hm
    | z1 :: _ :: _, _, hm => cases z1 <;> cases hm
theorem im_mut {K : PySem.W.Frag} {m : Mut} {i : Nat} {gs : Rho → R (List D)} (h : tE Wx (fun ρ => kMut0 i (fun ρ' => kMut m i (gs ρ')) ρ) σ H Q) : tMth K "list" (rMut Wx m i) (tVar i) (tVs Wx gs) σ H Q := by
  obtain ⟨P, ρ, A, ok, out⟩ := h
  dsimp only at out
  unfold kMut0 at out
  split at out
  case h_2 => exact out.elim
  rename_i zs0 hs0
  have out : Out Wx RA σ P H A (kMut m i (gs ρ)) Q := out
  obtain ⟨a, vs, e1, h1, h2, _⟩ := ok_ownL ok hs0
  refine ⟨_, e1, .lst (.inl (.inl h1)), P, ρ, A, ok, ?_⟩
  cases e2 : gs ρ with
  | bad => rw [e2] at out; exact out.elim
  | exc ex ρ2 => rw [e2] at out; exact out
  | ok ds ρ2 =>
    rw [e2] at out
    intro P2 H2 A2 B2 v2 x2 o2 r2 d2 n2
    obtain ⟨_, r2⟩ := r2
    simp only [kMut] at out
    cases hs : slot ρ2 i with
    | none => rw [hs] at out; exact out.elim
    | some o =>
      rw [hs] at out
      cases o with
      | lst zs =>
        dsimp only at out
        cases hm : mutD m zs ds with
        | none => rw [hm] at out; exact out.elim
        | some p =>
          obtain ⟨y, zs'⟩ := p
          rw [hm] at out
          exact ⟨P2, σ, ρ2, A2, zs, ds, o2, e1, hs, r2, y, zs', hm, out.shift x2 n2.left⟩
      | _ => exact out.elim
end
end SW

set_option Elab.async false
set_option linter.all false
set_option maxRecDepth 100000
set_option maxHeartbeats 2000000
/-! arguments, calls, what a call promises -/
namespace SW
open PySem PySem.Spec L2
open PyProof.Rows hiding St
def ROs (P H : Hp) : List Addr → List O → List V → Prop
  | B, [] => fun vs => B = [] ∧ vs = []
  | B, o :: os => fun vs => ∃ v t B1 B2, vs = v :: t ∧ B = B1 ++ B2 ∧ RO P H B1 o v ∧ ROs P H B2 os t
theorem ROs.there {P H : Hp} : ∀ {os : List O} {B : List Addr} {vs : List V}, ROs P H B os vs → ∀ a ∈ B, P a = none ∧ H a ≠ none
  | [], _, _, h => by rw [h.1]; intro a ha; cases ha
  | o :: os, _, _, h => by
    obtain ⟨v, t, B1, B2, rfl, rfl, h1, h2⟩ := h
    intro a ha
    rcases List.mem_append.mp ha with q | q
    · exact h1.there a q
    · exact ROs.there h2 a q
theorem ROs.ext {A P H P' H'} (x : Ext A P H P' H') : ∀ {os : List O} {B : List Addr} {vs : List V}, ROs P H B os vs → (∀ a ∈ B, a ∉ A) → ROs P' H' B os vs
  | [], _, _, h, _ => h
  | o :: os, _, _, h, d => by
    obtain ⟨v, t, B1, B2, e1, rfl, h1, h2⟩ := h
    exact ⟨v, t, B1, B2, e1, rfl, h1.ext x fun a ha => d a (List.mem_append_left _ ha), ROs.ext x h2 fun a ha => d a (List.mem_append_right _ ha)⟩
theorem ROs.length {P H : Hp} : ∀ {os : List O} {B : List Addr} {vs : List V}, ROs P H B os vs → os.length = vs.length
  | [], _, _, h => by rw [h.2]; rfl
  | o :: os, _, _, h => by
    obtain ⟨v, t, B1, B2, rfl, rfl, h1, h2⟩ := h
    rw [List.length_cons, List.length_cons, ROs.length h2]
theorem ROs.append {P H : Hp} : ∀ {os : List O} {B : List Addr} {vs : List V} {os' : List O} {B' : List Addr} {vs' : List V}, ROs P H B os vs → ROs P H B' os' vs' → ROs P H (B ++ B') (os ++ os') (vs ++ vs')
  | [], _, _, _, _, _, h, h' => by rw [h.1, h.2]; exact h'
  | o :: os, _, _, _, _, _, h, h' => by
    obtain ⟨v, t, B1, B2, rfl, rfl, h1, h2⟩ := h
    exact ⟨v, _, B1, B2 ++ _, rfl, by rw [List.append_assoc], h1, ROs.append h2 h'⟩
/-- a call's arguments with the names that lent them -/
def Backs (σ : St) (n : Nat) : List Ag → List V → Prop
  | [], vs => vs = []
  | g :: gs, vs => ∃ v t, vs = v :: t ∧ (∀ i, g.back = some i → σ[i]? = some (some v) ∧ i < n) ∧ Backs σ n gs t
def RAs' (P H : Hp) (σ : St) : List Addr → List SW.A → List V → Prop
  | B, [] => fun vs => B = [] ∧ vs = []
  | B, x :: xs => fun vs => ∃ v t B1 B2, vs = v :: t ∧ B = B1 ++ B2 ∧ RA P H σ [] B1 x v ∧ RAs' P H σ B2 xs t
def RAs : Rel (List SW.A) (List V) := fun P H σ _ B xs vs => RAs' P H σ B xs vs
theorem RA.any {P H : Hp} {σ : St} {ρ ρ' : Rho} {B : List Addr} {x : SW.A} {v : V} (h : RA P H σ ρ B x v) : RA P H σ ρ' B x v := by
  cases x <;> exact h
theorem RAs'.length {P H : Hp} {σ : St} : ∀ {xs : List SW.A} {B : List Addr} {vs : List V}, RAs' P H σ B xs vs → xs.length = vs.length
  | [], _, _, h => by rw [h.2]; rfl
  | x :: xs, _, _, h => by
    obtain ⟨v, t, B1, B2, rfl, rfl, h1, h2⟩ := h
    rw [List.length_cons, List.length_cons, RAs'.length h2]
theorem RAs'.ext {A0 : List Addr} {P H P' H' : Hp} {σ : St} (x : Ext A0 P H P' H') : ∀ {xs : List SW.A} {B : List Addr} {vs : List V}, RAs' P H σ B xs vs → (∀ a ∈ B, a ∉ A0) → RAs' P' H' σ B xs vs
  | [], _, _, h, _ => h
  | y :: xs, _, _, h, d => by
    obtain ⟨v, t, B1, B2, e, rfl, h1, h2⟩ := h
    exact ⟨v, t, B1, B2, e, rfl, (h1.ext (ρ' := []) x fun a ha => d a (List.mem_append_left _ ha)), RAs'.ext x h2 fun a ha => d a (List.mem_append_right _ ha)⟩
section
variable {Wx : Wish} {σ : St} {H : Hp} {Q : VK} {X : Cx}
theorem set_same {σ : St} {i : Nat} {v : V} (h : σ[i]? = some (some v)) : σ.set i (some v) = σ := by
  refine List.ext_getElem? fun j => ?_
  by_cases e : i = j
  · subst e
    have hl : i < σ.length := by
      rcases Nat.lt_or_ge i σ.length with q | q
      · exact q
      · rw [List.getElem?_eq_none q] at h; cases h
    rw [List.getElem?_set_self hl, h]
  · rw [List.getElem?_set_ne e]
theorem Backs.len {n m : Nat} {gs : List Ag} {vs : List V} (h : Backs σ n gs vs) (e : n = m) : Backs σ m gs vs := e ▸ h
theorem putBack_len : ∀ (gs : List Ag) (os : List O) (ρ : Rho), (putBack gs os ρ).length = ρ.length
  | [], _, ρ => rfl
  | g :: gs, [], ρ => rfl
  | g :: gs, o :: os, ρ => by
    show (putBack gs os _).length = _
    rw [putBack_len gs os]
    cases g.back with
    | none => rfl
    | some i => exact List.length_set
/-- the lent lists come back -/
theorem putBack_ok {P : Hp} : ∀ {gs : List Ag} {os : List O} {vs ws : List V} {ρ : Rho} {A B : List Addr} {n : Nat}, Ok P H σ ρ A → ROs P H B os (vs ++ ws) → Backs σ n gs vs → n ≤ ρ.length → (A ++ B).Nodup →
    ∃ A', Ok P H σ (putBack gs os ρ) A' ∧ ∀ a ∈ A', a ∈ A ++ B
  | [], os, vs, ws, ρ, A, B, n, ok, r, b, hn, nd => ⟨A, by cases os <;> exact ok, fun a ha => List.mem_append_left _ ha⟩
  | g :: gs, [], vs, ws, ρ, A, B, n, ok, r, b, hn, nd => by
    obtain ⟨v, t, rfl, _, _⟩ := b
    cases r.2
  | g :: gs, o :: os, vs, ws, ρ, A, B, n, ok, r, b, hn, nd => by
    obtain ⟨v, t, rfl, hb, b'⟩ := b
    obtain ⟨v', t', B1, B2, e, rfl, h1, h2⟩ := r
    cases e
    have n1 : A.Nodup := ok.nd
    have n2 : (B1 ++ B2).Nodup := (List.nodup_append.mp nd).2.1
    have dAB : ∀ a ∈ A, a ∉ B1 ++ B2 := apart' nd
    show ∃ A', Ok P H σ (putBack gs os (match g.back with
      | some i => ρ.set i (some o)
      | none => ρ)) A' ∧ _
    cases hg : g.back with
    | none =>
      have nd' : (A ++ B2).Nodup := List.nodup_append.mpr ⟨n1, (List.nodup_append.mp n2).2.1, fun a ha b hb q => dAB a ha (by rw [q]; exact List.mem_append_right _ hb)⟩
      obtain ⟨A', o', s'⟩ := putBack_ok (gs := gs) ok h2 b' hn nd'
      refine ⟨A', o', fun a ha => ?_⟩
      rcases List.mem_append.mp (s' a ha) with q | q
      · exact List.mem_append_left _ q
      · exact List.mem_append_right _ (List.mem_append_right _ q)
    | some i =>
      obtain ⟨hi, hl⟩ := hb i hg
      obtain ⟨A1, A0, A2, rfl, h3⟩ := Slots.put (X := []) Ext.refl i ok.sl (fun _ _ => List.not_mem_nil) h1 (by omega)
      rw [set_same hi] at h3
      have d1 : ∀ a ∈ A1 ++ A2, a ∉ B1 ++ B2 := fun a ha => dAB a (mem_mid ha)
      have nm : (A1 ++ A2).Nodup := (nodup_mid n1).1
      have nd2 : (A1 ++ (B1 ++ A2)).Nodup := by
        have := List.nodup_append.mp nm
        refine List.nodup_append.mpr ⟨this.1, List.nodup_append.mpr ⟨(List.nodup_append.mp n2).1, this.2.1, fun a ha b hb q => ?_⟩, fun a ha b hb q => ?_⟩
        · exact d1 b (List.mem_append_right _ hb) (by rw [← q]; exact List.mem_append_left _ ha)
        · rcases List.mem_append.mp hb with z | z
          · exact d1 a (List.mem_append_left _ ha) (by rw [q]; exact List.mem_append_left _ z)
          · exact this.2.2 a ha b z q
      have mm : ∀ a ∈ A1 ++ (B1 ++ A2), a ∈ A1 ++ A2 ∨ a ∈ B1 := fun a ha => by
        rcases List.mem_append.mp ha with z | z
        · exact .inl (List.mem_append_left _ z)
        · rcases List.mem_append.mp z with z | z
          · exact .inr z
          · exact .inl (List.mem_append_right _ z)
      have ok2 : Ok P H σ (ρ.set i (some o)) (A1 ++ (B1 ++ A2)) := ⟨ok.sub, h3, nd2⟩
      have nd' : ((A1 ++ (B1 ++ A2)) ++ B2).Nodup := List.nodup_append.mpr ⟨nd2, (List.nodup_append.mp n2).2.1, fun a ha b hb q => by
        rcases mm a ha with z | z
        · exact d1 a z (by rw [q]; exact List.mem_append_right _ hb)
        · exact (List.nodup_append.mp n2).2.2 a z b hb q⟩
      obtain ⟨A', o', s'⟩ := putBack_ok (gs := gs) ok2 h2 b' (by rw [List.length_set]; exact hn) nd'
      refine ⟨A', o', fun a ha => ?_⟩
      rcases List.mem_append.mp (s' a ha) with q | q
      · rcases mm a q with z | z
        · exact List.mem_append_left _ (mem_mid z)
        · exact List.mem_append_right _ (List.mem_append_left _ z)
      · exact List.mem_append_right _ (List.mem_append_right _ q)
/-- an argument out of an expression's value -/
theorem ag_ok {P : Hp} {ρ ρ' : Rho} {A B : List Addr} {x : SW.A} {v : V} {g : Ag} (ok : Ok P H σ ρ A) (r : RA P H σ ρ B x v) (nd : (A ++ B).Nodup) (e : lend1 x ρ = some (g, ρ')) :
    ∃ A' B', Ok P H σ ρ' A' ∧ RO P H B' g.o v ∧ (A' ++ B').Nodup ∧ (∀ a ∈ A' ++ B', a ∈ A ++ B) ∧ ρ'.length = ρ.length ∧ ∀ i, g.back = some i → σ[i]? = some (some v) ∧ i < ρ.length := by
  cases x with
  | vl o =>
    cases e
    exact ⟨A, B, ok, r, nd, fun a h => h, rfl, fun i q => by cases q⟩
  | pl i =>
    obtain ⟨rfl, hv⟩ := r
    have e : lend i ρ = some (g, ρ') := e
    unfold lend at e
    cases hs : slot ρ i with
    | none => rw [hs] at e; cases e
    | some o =>
      rw [hs] at e
      obtain ⟨w, A1, C, A2, e1, rfl, q, up⟩ := ok.sl.at' hs
      rw [hv] at e1
      cases e1
      have hi : i < ρ.length := by
        rcases Nat.lt_or_ge i ρ.length with z | z
        · exact z
        · unfold slot at hs; rw [List.getElem?_eq_none z] at hs; cases hs
      have own : ∀ g ρ', g = (⟨o, some i⟩ : Ag) → ρ' = ρ.set i none → ∃ A' B', Ok P H σ ρ' A' ∧ RO P H B' g.o v ∧ (A' ++ B').Nodup ∧ (∀ a ∈ A' ++ B', a ∈ A1 ++ (C ++ A2) ++ []) ∧ ρ'.length = ρ.length ∧ ∀ i, g.back = some i → σ[i]? = some (some v) ∧ i < ρ.length := by
        rintro g ρ' rfl rfl
        obtain ⟨n1, n2, n3⟩ := nodup_mid ok.nd
        have h4 := up [] P H .refl (fun _ _ => List.not_mem_nil) none [] rfl
        rw [List.nil_append] at h4
        refine ⟨A1 ++ A2, C, ⟨ok.sub, h4, n1⟩, q, List.nodup_append.mpr ⟨n1, n3, fun a ha b hb z => n2 a ha (by rw [z]; exact hb)⟩, fun a ha => ?_, List.length_set, fun j ej => ?_⟩
        · rw [List.append_nil]
          rcases List.mem_append.mp ha with z | z
          · exact mem_mid z
          · simp [z]
        · cases ej
          exact ⟨hv, hi⟩
      cases o with
      | val d =>
        cases e
        exact ⟨_, [], ok, ⟨rfl, q.2⟩, nd, fun a h => h, rfl, fun i q => by cases q⟩
      | lst ds =>
        cases e
        exact own _ _ rfl rfl
      | dct ds =>
        cases e
        exact own _ _ rfl rfl
theorem lendAll_ok {P : Hp} : ∀ {xs : List SW.A} {ρ ρ' : Rho} {A B : List Addr} {vs : List V} {gs : List Ag}, Ok P H σ ρ A → RAs' P H σ B xs vs → (A ++ B).Nodup → lendAll xs ρ = some (gs, ρ') →
    ∃ A' B', Ok P H σ ρ' A' ∧ ROs P H B' (gs.map (·.o)) vs ∧ Backs σ ρ.length gs vs ∧ (A' ++ B').Nodup ∧ (∀ a ∈ A' ++ B', a ∈ A ++ B) ∧ ρ'.length = ρ.length
  | [], ρ, ρ', A, B, vs, gs, ok, r, nd, e => by
    cases e
    obtain ⟨rfl, rfl⟩ := r
    exact ⟨A, [], ok, ⟨rfl, rfl⟩, rfl, nd, fun a h => h, rfl⟩
  | x :: xs, ρ, ρ', A, B, vs, gs, ok, r, nd, e => by
    obtain ⟨v, t, B1, B2, rfl, rfl, h1, h2⟩ := r
    have e : (match lend1 x ρ with
      | some (g, ρ1) => (match lendAll xs ρ1 with
        | some (gs, ρ2) => some (g :: gs, ρ2)
        | none => none)
      | none => none) = some (gs, ρ') := e
    cases e1 : lend1 x ρ with
    | none => rw [e1] at e; cases e
    | some p =>
      obtain ⟨g, ρ1⟩ := p
      rw [e1] at e
      dsimp only at e
      cases e2 : lendAll xs ρ1 with
      | none => rw [e2] at e; cases e
      | some p2 =>
        obtain ⟨gs', ρ2⟩ := p2
        rw [e2] at e
        cases e
        have nAB := List.nodup_append.mp nd
        have nB := List.nodup_append.mp nAB.2.1
        have nd1 : (A ++ B1).Nodup := List.nodup_append.mpr ⟨nAB.1, nB.1, fun a ha b hb q => nAB.2.2 a ha b (List.mem_append_left _ hb) q⟩
        obtain ⟨A1, C1, o1, r1, d1, s1, l1, b1⟩ := ag_ok ok (h1.any (ρ' := ρ)) nd1 e1
        have dis : ∀ a ∈ A1 ++ C1, a ∉ B2 := fun a ha hb => by
          rcases List.mem_append.mp (s1 a ha) with z | z
          · exact nAB.2.2 a z a (List.mem_append_right _ hb) rfl
          · exact nB.2.2 a z a hb rfl
        have nd2 : (A1 ++ B2).Nodup := List.nodup_append.mpr ⟨o1.nd, nB.2.1, fun a ha b hb q => dis a (List.mem_append_left _ ha) (by rw [q]; exact hb)⟩
        obtain ⟨A2, C2, o2, r2, b2, d2, s2, l2⟩ := lendAll_ok o1 h2 nd2 e2
        have dC : ∀ a ∈ A2 ++ C2, a ∉ C1 := fun a ha hb => by
          rcases List.mem_append.mp (s2 a ha) with z | z
          · exact (List.nodup_append.mp d1).2.2 a z a hb rfl
          · exact dis a (List.mem_append_right _ hb) z
        have z := List.nodup_append.mp d2
        refine ⟨A2, C1 ++ C2, o2, ⟨v, t, C1, C2, rfl, rfl, r1, r2⟩, ⟨v, t, rfl, b1, b2.len l1⟩, ?_, fun a ha => ?_, by rw [l2, l1]⟩
        · refine List.nodup_append.mpr ⟨z.1, List.nodup_append.mpr ⟨(List.nodup_append.mp d1).2.1, z.2.1, fun a ha b hb q => dC b (List.mem_append_right _ hb) (by rw [← q]; exact ha)⟩, fun a ha b hb q => ?_⟩
          rcases List.mem_append.mp hb with w | w
          · exact dC a (List.mem_append_left _ ha) (by rw [q]; exact w)
          · exact z.2.2 a ha b w q
        · have up : ∀ b, b ∈ A1 ++ C1 → b ∈ A ++ (B1 ++ B2) := fun b hb => by
            rcases List.mem_append.mp (s1 b hb) with w | w
            · exact List.mem_append_left _ w
            · exact List.mem_append_right _ (List.mem_append_left _ w)
          have up2 : ∀ b, b ∈ A2 ++ C2 → b ∈ A ++ (B1 ++ B2) := fun b hb => by
            rcases List.mem_append.mp (s2 b hb) with w | w
            · exact up b (List.mem_append_left _ w)
            · exact List.mem_append_right _ (List.mem_append_right _ w)
          rcases List.mem_append.mp ha with w | w
          · exact up2 a (List.mem_append_left _ w)
          · rcases List.mem_append.mp w with w | w
            · exact up a (List.mem_append_right _ w)
            · exact up2 a (List.mem_append_right _ w)
theorem im_agN {Q : List V → Hp → Prop} (h : tG Wx RAs (fun ρ => .ok [] ρ) σ H Q) : tNil σ H Q := by
  obtain ⟨P, ρ, A, ok, out⟩ := h
  dsimp only at out
  exact out.here ok ⟨rfl, rfl⟩
theorem im_ags {g : Rho → R SW.A} {gs : Rho → R (List SW.A)} {Q : List V → Hp → Prop} (h : tG Wx RAs (fun ρ => kAs1 gs (g ρ)) σ H Q) : tCons (tE Wx g) (tG Wx RAs gs) σ H Q := by
  obtain ⟨P, ρ, A, ok, out⟩ := h
  dsimp only at out
  refine ⟨P, ρ, A, ok, ?_⟩
  cases e : g ρ with
  | bad => rw [e] at out; exact out.elim
  | exc ex ρ1 => rw [e] at out; exact out
  | ok x ρ1 =>
    rw [e] at out
    intro P1 H1 A1 B1 v1 x1 o1 r1 d1 n1
    refine ⟨P1, ρ1, A1, o1, ?_⟩
    have out : Out Wx RAs σ P H A (kAs2 x (gs ρ1)) Q := out
    cases e3 : gs ρ1 with
    | bad => rw [e3] at out; exact out.elim
    | exc ex ρ3 => rw [e3] at out; exact Out.shift (L := RAs) (r := (.exc ex ρ3 : R (List SW.A))) (Q := Q) out x1 n1.left
    | ok xs ρ3 =>
      rw [e3] at out
      intro P3 H3 A3 B3 v3 x3 o3 r3 d3 n3
      have r1' := r1.ext (ρ' := []) x3 (apart d1)
      have dis : ∀ a ∈ A3 ++ B3, a ∉ B1 := fun a ha hb => by
        rcases n3 a ha with z | z
        · exact apart d1 a hb z
        · exact (r1.there a hb).2 z
      refine out P3 H3 A3 (B1 ++ B3) (v1 :: v3) (x1.trans x3 n1.left) o3 ⟨v1, v3, B1, B3, rfl, rfl, r1', r3⟩ ?_ fun a ha => ?_
      · have z := List.nodup_append.mp d3
        refine List.nodup_append.mpr ⟨z.1, List.nodup_append.mpr ⟨(List.nodup_append.mp d1).2.1, z.2.1, fun a ha b hb q => dis b (List.mem_append_right _ hb) (by rw [← q]; exact ha)⟩, fun a ha b hb q => ?_⟩
        rcases List.mem_append.mp hb with w | w
        · exact dis a (List.mem_append_left _ ha) (by rw [q]; exact w)
        · exact z.2.2 a ha b w q
      · rcases List.mem_append.mp ha with w | w
        · exact n1.left.trans n3.left x1.there a w
        · rcases List.mem_append.mp w with w | w
          · exact n1.right a w
          · exact n1.left.trans n3 x1.there a (List.mem_append_right _ w)

/-! ### exceptions -/
/-- an exception's class, and what stands in it -/
def ExcAt (mg : Str → Option Value) (xl : List Str) (P H : Hp) (e : Exn) (cls : Value) (d : Option Addr) : Prop :=
  e.cls ∈ xl ∧ mg e.cls = some cls ∧ ∃ dd fs v, d = some dd ∧ H dd = some (.xd fs) ∧ fs.lookup ("at" : Str) = some v ∧ RD P e.arg v
/-- what is wanted of an exception that is made from here on -/
def wishE (mg : Str → Option Value) (xl : List Str) (E : XK) : Wish := fun e P H _ => ∀ P' H' cls d, Ext [] P H P' H' → (∀ a o, P' a = some o → H' a = some o) → ExcAt mg xl P' H' e cls d → E cls d H'

/-! ### calls -/
section
variable (mg : Str → Option Value) (xl : List Str)
def CallOut (P H : Hp) (A : List Addr) (vs : List V) (r : C) (Q : VK) (E : XK) : Prop := match r with
  | .ok o os' => ∀ P' H' A' B v, Ext A P H P' H' → (∀ a o, P' a = some o → H' a = some o) → ROs P' H' A' os' vs → RO P' H' B o v → (A' ++ B).Nodup → New A H (A' ++ B) → Q v H'
  | .exc e _ => ∀ P' H' cls d, Ext A P H P' H' → (∀ a o, P' a = some o → H' a = some o) → ExcAt mg xl P' H' e cls d → E cls d H'
  | .bad => False
def spF (np : Nat) (call : List O → C) : Sp := fun vs H Q E => ∃ P A os, (∀ a o, P a = some o → H a = some o) ∧ ROs P H A os vs ∧ A.Nodup ∧ os.length = np ∧ CallOut mg xl P H A vs (call os) Q E
end
variable {mg : Str → Option Value} {xl : List Str}
theorem spF_len {np : Nat} {call : List O → C} {vs : List V} {E : XK} (h : spF mg xl np call vs H Q E) : vs.length = np := by
  obtain ⟨P, A, os, _, r, _, e, _⟩ := h
  rw [← r.length, e]
/-- plain values as they stand in a def's head -/
def atomV : D → V
  | .none => .non
  | .bool b => .bl b
  | .int i => .int i
  | .str x => .str x
  | _ => .non
def isAtom : D → Bool
  | .none => true
  | .bool _ => true
  | .int _ => true
  | .str _ => true
  | _ => false
theorem rd_atom {P : Hp} {d : D} (h : isAtom d = true) : RD P d (atomV d) := by
  cases d with
  | none => exact rd_none
  | bool _ => exact rd_bool
  | int _ => exact rd_int
  | str _ => exact rd_str
  | _ => cases h
theorem ros_atoms {P : Hp} : ∀ {ds : List D}, ds.all isAtom = true → ROs P H [] (ds.map O.val) (ds.map atomV)
  | [], _ => ⟨rfl, rfl⟩
  | d :: ds, h => by
    rw [List.all_cons, Bool.and_eq_true] at h
    exact ⟨_, _, [], [], rfl, rfl, ⟨rfl, rd_atom h.1⟩, ros_atoms h.2⟩
theorem im_call {np : Nat} {callf : List O → C} {gs : Rho → R (List SW.A)} {dfl : List D} {m : Nat} {E : XK} (hwx : ∀ e P H σ, Wx e P H σ → wishE mg xl E e P H σ) (hd : dfl.all isAtom = true) (hm : m + dfl.length = np) (hgs : ∀ ρ x ρ', gs ρ = .ok x ρ' → x.length = m)
    {call : List O → C} (hc : ∀ os, os.length = m → call os = callf (os ++ dfl.map O.val)) (h : tE Wx (fun ρ => kCall call (gs ρ)) σ H Q) : tCall (spF mg xl np callf) (dfl.map atomV) E (tG Wx RAs gs) σ H Q := by
  obtain ⟨P, ρ, A, ok, out⟩ := h
  dsimp only at out
  refine ⟨P, ρ, A, ok, ?_⟩
  cases e : gs ρ with
  | bad => rw [e] at out; exact out.elim
  | exc ex ρ1 => rw [e] at out; exact out
  | ok xs ρ1 =>
    rw [e] at out
    intro P1 H1 A1' B1' vs x1 o1' r1' d1' n1'
    have hl := hgs _ _ _ e
    simp only [kCall] at out
    cases hL : lendAll xs ρ1 with
    | none => rw [hL] at out; exact out.elim
    | some p =>
    obtain ⟨gs', ρ1'⟩ := p
    rw [hL] at out
    dsimp only at out
    obtain ⟨A1, B1, o1, r1, b1, d1, s1, l1⟩ := lendAll_ok o1' r1' d1' hL
    have n1 : New A H (A1 ++ B1) := fun a ha => n1' a (s1 a ha)
    have lg : gs'.length = m := by
      have h1 := r1.length
      rw [List.length_map] at h1
      rw [h1, ← hl]
      exact (RAs'.length r1').symm
    have out : Out Wx RA σ P H A (kRet gs' ρ1' (callf (gs'.map (·.o) ++ dfl.map O.val))) Q := by
      rw [← hc _ (by rw [List.length_map, lg])]
      exact out
    have hb := (List.nodup_append.mp d1).2.1
    refine ⟨P1, B1 ++ [], gs'.map (·.o) ++ dfl.map O.val, o1.sub, r1.append (ros_atoms hd), by rw [List.append_nil]; exact hb, by simp [lg, hm], ?_⟩
    rw [List.append_nil]
    cases hc' : callf (gs'.map (·.o) ++ dfl.map O.val) with
    | bad => rw [hc'] at out; exact out.elim
    | exc ex os' =>
      rw [hc'] at out
      intro P2 H2 cls d x2 sub2 ea
      have dd : ∀ a ∈ A1, a ∉ B1 := apart' d1
      have x12 : Ext A P H P2 H2 := x1.trans (x2.mono fun a ha => s1 a (List.mem_append_right _ ha)) n1'
      exact hwx _ _ _ _ ((show Out Wx RA σ P H A (.exc ex ρ1' : R SW.A) Q from out) P2 H2 A1 x12 (o1.ext x2 sub2 dd) n1.left) P2 H2 cls d .refl sub2 ea
    | ok o os' =>
      rw [hc'] at out
      intro P2 H2 A2 B2 v x2 sub2 r2 ro d2 n2
      have dd : ∀ a ∈ A1, a ∉ B1 := apart' d1
      have o2 := o1.ext x2 sub2 dd
      have dA : ∀ a ∈ A2 ++ B2, a ∉ A1 := fun a ha hq => by
        rcases n2 a ha with z | z
        · exact dd a hq z
        · exact (o1.there a hq).2 z
      have nA2 := List.nodup_append.mp d2
      obtain ⟨A', o', s'⟩ := putBack_ok (gs := gs') (vs := vs) (ws := dfl.map atomV) o2 r2 b1 (by rw [l1]; exact Nat.le_refl _) (List.nodup_append.mpr ⟨o1.nd, nA2.1, fun a ha b hb q => dA b (List.mem_append_left _ hb) (by rw [← q]; exact ha)⟩)
      have x12 : Ext A P H P2 H2 := x1.trans (x2.mono fun a ha => s1 a (List.mem_append_right _ ha)) n1'
      have nn : ∀ a, a ∈ A2 ++ B2 → a ∈ A ∨ H a = none := n1.right.trans n2 x1.there
      refine out P2 H2 A' B2 v x12 o' ro (List.nodup_append.mpr ⟨o'.nd, nA2.2.1, fun a ha b hb q => ?_⟩) fun a ha => ?_
      · subst q
        rcases List.mem_append.mp (s' a ha) with z | z
        · exact dA a (List.mem_append_right _ hb) z
        · exact nA2.2.2 a z a hb rfl
      · rcases List.mem_append.mp ha with z | z
        · rcases List.mem_append.mp (s' a z) with w | w
          · exact n1.left a w
          · exact nn a (List.mem_append_left _ w)
        · exact nn a (List.mem_append_right _ z)
end
end SW

set_option Elab.async false
set_option linter.all false
set_option maxRecDepth 100000
set_option maxHeartbeats 4000000
/-! exceptions whose __init__ calls super().__init__: made -/
namespace SW
namespace Ex
open PySem PySem.W PySem.Calls PyProof.Rows
/-- a class's own __init__ that says super() -/
structure Ini (prog : Program) (K : Frag) (D f cc cda : Addr) (qual : Str) (scope : Scope) (body : List Stmt) (fd : FuncData) : Prop where
  fdE : ∃ name params dV kV doc pm an ct, fd = ksFn name qual params body scope dV kV doc pm an (.ref cda) ct cc
  lk : ∃ oc od osl, K.lookup f = some ⟨oc, od, .func fd, osl⟩
  cd : codeIn K (.ref cda) qual = true
  cdf : ∃ ccl cdd vs ccs file tf, K.lookup cda = some ⟨ccl, cdd, .fields vs, ccs⟩ ∧ vs[2]? = some (.str file tf) ∧ ((prog.main.file : Str) == file) = true
  cell : ∃ cl cld csl, K.lookup cc = some ⟨cl, cld, .cell (some (.ref D)), csl⟩
  cls : ∃ cdD, clsIn K D = some cdD
  par : ∃ ar : Arg, (fd.params.posonlyargs ++ fd.params.args).head? = some ar ∧ ar.arg = ("self" : Str)
  ks : scope.names.lookup ("super" : Str) = some .globalImplicit
  kc : scope.names.lookup ("__class__" : Str) = some .free
  kself : scope.names.lookup ("self" : Str) = some .local
  kat : scope.names.lookup ("at" : Str) = some .local
  nocell : ∀ x ∈ scope.names, x.2 ≠ .cell
  co : scope.isCoroutine = false
  gen : scope.isGenerator = false
  kind : scope.kind = .function
  top : (prog.main.scope.names.lookup ("super" : Str)).isSome = false
/-- the names that all see -/
structure Gs (h : Heap) : Prop where
  g : ∃ mg, h.Ns mainGlobals mg ∧ mg ("super" : Str) = none
  b : ∃ mb, h.Ns builtinsNs mb ∧ mb ("super" : Str) = some (.type "super")
  lim : h.NoLimit
theorem Gs.keeps {h h' : Heap} (x : Gs h) (k : ∀ b o, h.get? b = some o → h'.get? b = some o) : Gs h' := by
  obtain ⟨⟨mg, g1, g2⟩, ⟨mb, b1, b2⟩, l⟩ := x
  exact ⟨⟨mg, g1.keeps k, g2⟩, ⟨mb, b1.keeps k, b2⟩, l.keeps k⟩
section
variable {prog : Program} {w : World} {A : Around} {E : Value → Shared → Prop} {hp : Heap} {g : Array GenState} {d : Drawn} {t : Nat} {os : OsState} {K : Frag} {D f cc cda C e L : Addr} {qual : Str} {scope : Scope} {body : List Stmt} {fd : FuncData}
theorem super_at (I : Ini prog K D f cc cda qual scope body fd) (X : K.In hp) (G : Gs hp) {m : Str → Option Value} (ns : hp.Ns L m) (hv : m ("self" : Str) = some (.ref e)) {ox : Obj} (he : hp.get? e = some ox) (hcl : ox.cls = .ref C) (hnc : ∀ c, ox.data ≠ .cls c)
    (hsub : mroIn K C (.ref D) = some true) {p0 p1 : Pos} {whole : Sem Value} {Q : Value → Shared → Prop}
    (h : ∀ h', h'.get? hp.objs.size = some (ks_superObj D e C) → (∀ y o, hp.get? y = some o → h'.get? y = some o) → Q (.ref hp.objs.size) ⟨h', g, d, t, os⟩) :
    _root_.PySem.wpAt (model prog w) A (.func body (ksEnv qual scope L f (.ref cda) cc)) (attributeBase (.Call (.Name "super" p0) [] [] p1) "__init__" (ksEnv qual scope L f (.ref cda) cc) whole) Q E ⟨hp, g, d, t, os⟩ := by
  obtain ⟨oc, od, osl, lk⟩ := I.lk
  obtain ⟨ccl, cdd, vs, ccs, file, tf, lc, hvs, hfile⟩ := I.cdf
  obtain ⟨cl, cld, csl, lcell⟩ := I.cell
  obtain ⟨cdD, hD⟩ := I.cls
  obtain ⟨ar, hp1, har⟩ := I.par
  obtain ⟨mg, g1, g2⟩ := G.g
  obtain ⟨mb, b1, b2⟩ := G.b
  obtain ⟨oD, hD1, hD2⟩ : ∃ oD, hp.get? D = some oD ∧ oD.data = .cls cdD := by
    unfold clsIn at hD
    split at hD
    · rename_i c d cd' sl ho
      cases hD
      exact ⟨_, X _ _ ho, rfl⟩
    · cases hD
  refine ks_wpAt_super_base (env := ksEnv qual scope L f (.ref cda) cc) I.ks I.kc (by decide) rfl (X _ _ lk) rfl hp1 rfl (X _ _ lc) rfl hvs hfile I.top ?_
  refine ks_loadName_global I.kind I.ks (loadGlobal_builtin (env := ksEnv qual scope L f (.ref cda) cc) g1 g2 b1 b2 ⟨rfl, ?_⟩)
  refine wpAny_loadName_free I.kind I.kc rfl ⟨_, X _ _ lcell, rfl⟩ ?_
  rw [har]
  refine wpAny_loadName_local I.kind I.kself ns hv ?_
  refine ks_wpAny_isType_cls hD1 hD2 ⟨rfl, ?_⟩
  refine ks_wpAny_call_super hD1 hD2 he hcl hnc (looks_mroIn X hsub) (fun h' e k => h h' e k)
/-- a name of the frame -/
theorem nm_at {m : Str → Option Value} {x : Str} {v : Value} {pos : Pos} {Q : Value → Shared → Prop} {tk : Nat} (kind : scope.kind = .function) (kl : scope.names.lookup x = some .local) (ns : hp.Ns L m) (hv : m x = some v) (hd : (x == ("__debug__" : Str)) = false)
    (h : Q v ⟨hp, g, d, tk, os⟩) : wpAny (model prog w) A (eval (.Name x pos) (ksEnv qual scope L f (.ref cda) cc)) Q E ⟨hp, g, d, tk, os⟩ :=
  wpAny_Name (wpAny_loadName_local kind kl ns hv h) hd
theorem doc_at {x : Str} {j : Nat} {p p' : Pos} {rest : List Stmt} {Q : Flow → Shared → Prop} {env : Env} {tk : Nat} (hi : interactive env = false)
    (h : _root_.PySem.wpAt (model prog w) A (.func body env) (execs rest env) Q E ⟨hp, g, d, tk + 1, os⟩) : _root_.PySem.wpAt (model prog w) A (.func body env) (execs (.Expr (.Constant (.str x) j p) p' :: rest) env) Q E ⟨hp, g, d, tk, os⟩ := by
  refine ks_wpAt_execs_cons (wpAt_of_wpAny (wpAny_Expr (Calls.Constant_str ?_) hi))
  exact h
/-- the class facts of what is made -/
structure Mk (K : Frag) (C S : Addr) : Prop where
  oex : L2.OexC K C
  sub : mroIn K C (.ref S) = some true
  ve : subIn K (.ref C) (.type "ValueError") = some true
  opq : nsIn K cStatics "thirdparty.any" = some none
  sup : ks_superIn K C S "__init__" = some (some (.builtin "ValueError.__init__"))
  noat : findIn K (.ref C) "at" = some none
  noname : findIn K (.ref C) "name" = some none
theorem cls_of {K : Frag} {C S : Addr} (k : Mk K C S) : ∃ cd, clsIn K C = some cd ∧ PySem.HandSPX.refsVE cd.mro = true ∧ cd.hasDict = true := by
  obtain ⟨nm, q, N, bs, bm, sn, sub, ab, col, dd, k0, k1, k2, k3, k5, hC, hbm⟩ := k.oex.cls
  exact ⟨{ name := nm, bases := bs, mro := .ref C :: bm, ns := N, qualname := q, hasDict := true, slotNames := sn, subclasses := sub, abstract := ab, collection := col, hasDel := false }, by unfold clsIn; rw [hC] <;> rfl, show PySem.HandSPX.refsVE (.ref C :: bm) = true from hbm, rfl⟩
theorem meth_eq {o : Expr} {name : Str} {apos pos : Pos} {args : List Expr} {env : Env} (hline : (apos.endLine == pos.line) = true) (hfew : methodCallForm (args.length + ([] : List Keyword).length) (backTo pos (starEach args env)) (backToKw pos (keywordEach [] env)) = true) : eval (.Call (.Attribute o name apos) args [] pos) env = (do
      let ov ← attributeBase o name env (eval o env)
      standAt apos.atName
      let (f, first) ← holding [ov] (getMethod ov name (do return (← importBound o env).getD true))
      callWith pos f first (backTo pos (starEach args env)) []) := by
  rw [arm_eval_Call]
  unfold methodCall calleeOf methodCallPos
  rw [hfew]
  simp only [if_true, Bool.not_true, Bool.false_or, hline, pure_bind]
  rfl
/-- super().__init__(..) called -/
theorem mw_call {u : Addr} {rest : List Value} {t0 : Addr} {Q : Value → Shared → Prop} (T : L2.OexC K C) (X : K.In hp) (hu : hp.get? u = some (kxs_mw "ValueError.__init__" e)) (he : hp.get? e = some (PySem.HandSPX.excO C t0)) (hz : rest.length ≤ sizeLine)
    (h : ∀ h' t1, (∀ b o, b ≠ e → hp.get? b = some o → h'.get? b = some o) → h'.get? e = some (PySem.HandSPX.excO C t1) → Q .none ⟨h', g, d, t, os⟩) :
    wpAny (model prog w) A (call (.ref u) rest) Q E ⟨hp, g, d, t, os⟩ := by
  obtain ⟨nm, q, N, bs, bm, sn, sub, ab, col, dd, k0, k1, k2, k3, k5, hC, hbm⟩ := T.cls
  have FB := F.excBase_ValueError
  refine wpAny_call (codeAny_of_tree ?_)
  show wpAny _ A.in1 (callAny (.ref u) ⟨rest, []⟩) _ _ _
  simp only [callAny]
  refine wpAny_bind (wpAny_load hu ?_)
  simp only [kxs_mw, show (Value.type "method-wrapper" == Value.type "method" || Value.type "method-wrapper" == Value.type "builtin_function_or_method" || Value.type "method-wrapper" == Value.type "method-wrapper") = true by decide, if_true]
  refine KFB.if_so (by decide) ?_
  refine wpAny_bind (check_bound_init FB.toExcCallFacts (X _ _ hC) he rfl ?_)
  refine wpAny_bind (wpAny_pure (wpAny_pure ?_))
  refine ⟨plainId_quiet FB.init.plain _, codeAny_builtin FB.initEntry ?_⟩
  exact exc_init_tree (cls := .ref C) (t0 := t0) (dv := none) (c2 := .none) (c3 := .none) (b4 := .bool false) he hz (fun h' k e' _ => h h' _ k e')
/-- SealError's body: super().__init__(at); self.at = at; self.name = name -/
def baseBody (q : Fin 16 → Pos) : List Stmt :=
  [.Expr (.Call (.Attribute (.Call (.Name "super" (q 2)) [] [] (q 3)) "__init__" (q 4)) [.Name "at" (q 5)] [] (q 6)) (q 7),
   .Assign [.Attribute (.Name "self" (q 8)) "at" (q 9)] (.Name "at" (q 10)) (q 11),
   .Assign [.Attribute (.Name "self" (q 12)) "name" (q 13)] (.Name "name" (q 14)) (q 15)]
theorem base_run {R : Result → Shared → Prop} {S t0 : Addr} {q : Fin 16 → Pos} (I : Ini prog K S f cc cda qual scope (baseBody q) fd) (kname : scope.names.lookup ("name" : Str) = some .local) (hl1 : ((q 4).endLine == (q 6).line) = true) (M : Mk K C S) (X : K.In hp) (hKe : K.lookup e = none) (G : Gs hp) (hroom : A.depth < recursionLimit)
    (he : hp.get? e = some (PySem.HandSPX.excO C t0)) {x nm : Value} (hb : ∀ s : Shared, K.In s.heap → BindsTo s fd ⟨[.ref e, x, nm], []⟩ [("self", .ref e), ("at", x), ("name", nm)])
    (h : ∀ h' tk' dx t1, (∀ b o, b ≠ e → hp.get? b = some o → h'.get? b = some o) → hp.objs.size ≤ dx → dx ≠ e → h'.get? e = some { cls := .ref C, dict := some dx, data := .fields #[.ref t1, .none, .none, .none, .bool false, .none] } →
      h'.Ns1 dx (fun y => if y = ("name" : Str) then some nm else if y = ("at" : Str) then some x else none) → R (.ok (.ret .none)) ⟨h', g, d, tk', os⟩) :
    codeAny (model prog w) A (.call (.ref f) ⟨[.ref e, x, nm], []⟩) R ⟨hp, g, d, t, os⟩ := by
  obtain ⟨oc, od, osl, lk⟩ := I.lk
  obtain ⟨name, params, dV, kV, doc, pm, an, ct, rfl⟩ := I.fdE
  refine ks_codeAny_call_defAt (binds := [("self", .ref e), ("at", x), ("name", nm)]) hroom (X _ _ lk) rfl G.lim (codeRec_of X I.cd) rfl (hb _ X) I.nocell (fun y hy => ?_) (fun h₁ hns hk₁ => ?_) I.co I.gen I.kind
  · simp only [List.mem_cons, List.not_mem_nil, or_false] at hy
    rcases hy with rfl | rfl | rfl
    · exact I.kself
    · exact I.kat
    · exact kname
  have X1 := X.keeps hk₁
  have G1 := G.keeps hk₁
  have he1 := hk₁ _ _ he
  have hi : interactive (ksEnv qual scope hp.objs.size f (.ref cda) cc) = false := by
    unfold interactive
    simp [I.kind]
  show _root_.PySem.wpAt _ _ (.func (baseBody q) (ksEnv qual scope hp.objs.size f (.ref cda) cc)) (execs (baseBody q) (ksEnv qual scope hp.objs.size f (.ref cda) cc)) _ _ _
  have hev := meth_eq (o := .Call (.Name "super" (q 2)) [] [] (q 3)) (name := "__init__") (apos := q 4) (pos := q 6) (args := [.Name "at" (q 5)]) (env := ksEnv qual scope hp.objs.size f (.ref cda) cc) hl1 rfl
  refine ks_wpAt_execs_cons (ks_wpAt_Expr_any (ks_wpAt_MethodCall (super_at I X1 G1 hns rfl he1 rfl (fun c z => by cases z) M.sub (fun h2 hso k2 => ?_)) hev) hi rfl)
  have X2 := X1.keeps k2
  have he2 := k2 _ _ he1
  obtain ⟨cdC, hcC, hrv, hhd⟩ := cls_of M
  have I2 : W.InstAt h2 e (PySem.HandSPX.excO C t0) C none := ⟨he2, rfl, rfl, trivial⟩
  have hal : alongIn K "__init__" ((cdC.mro.dropWhile (· != .ref S)).drop 1) = some (some (.builtin "ValueError.__init__")) := by
    have z := M.sup
    unfold ks_superIn at z
    rw [hcC] at z
    exact z
  refine kxs_getMethod kxs_ValueError hso (looks_opaque X2 M.opq) (l₀ := cdC.mro) (fun A Q E s k q => wpAny_bind ((looks_clsIn X2 hcC) A _ E s k (wpAny_pure q))) rfl X2 hal (I2.type.andThen (looks_subIn X2 M.ve)) (ks_ne X2 I2 hcC) (by decide) ?_
  have hu : (h2.push (kxs_mw "ValueError.__init__" e)).get? h2.objs.size = some (kxs_mw "ValueError.__init__" e) := Heap.get?_push_size h2 rfl
  have k3 : ∀ b o, h2.get? b = some o → (h2.push (kxs_mw "ValueError.__init__" e)).get? b = some o := fun b o => Heap.get?_push_of_some _
  have ns3 := (hns.keeps k2).keeps k3
  show wpAny _ _ (callWith (q 6) (.ref h2.objs.size) [] (backTo (q 6) (starEach [.Name "at" (q 5)] _)) []) _ _ _
  refine kxs_callWith (i := "ValueError.__init__") (x := e) rfl (evalArgs_plain (spliced_cons ?_))
  refine nm_at I.kind I.kat ns3 rfl (by decide) ?_
  refine spliced_nil ⟨hu, ?_⟩
  obtain ⟨nm', qn, N, bs, bm, sn, sub, ab, col, dd, k0, k1, k2', k3', k5, hC, hbm⟩ := M.oex.cls
  refine mw_call (K := K) (C := C) M.oex (X2.keeps k3) hu (k3 _ _ he2) (rest := [x]) (by simp [sizeLine_eq]) (fun h4 t1 k4 he4 => ?_)
  have eL : hp.objs.size ≠ e := fun z => Nat.lt_irrefl _ (by have y := Heap.lt_size he; rw [← z] at y; exact y)
  have ns4 : h4.Ns hp.objs.size (fun y => ([("self", Value.ref e), ("at", x), ("name", nm)] : List (Str × Value)).reverse.lookup y) := by
    obtain ⟨oL, es, ep, hL, r⟩ := ns3
    exact ⟨oL, es, ep, k4 _ _ eL hL, r⟩
  have X4 : K.In h4 := fun b o z => k4 b o (fun y => by rw [y, hKe] at z; cases z) (X2.keeps k3 b o z)
  have I4 : W.InstAt h4 e (PySem.HandSPX.excO C t1) C none := ⟨he4, rfl, rfl, trivial⟩
  refine ks_wpAt_execs_cons (ks_wpAt_Assign_Attr (wpAt_of_wpAny (nm_at I.kind I.kat ns4 rfl (by decide) (nm_at I.kind I.kself ns4 rfl (by decide) (set_plain X4 I4 M.oex.sa (PySem.HandSPX.exc_osa X4 he4 hcC hrv hhd M.noat (fun h5 tk5 dx5 k5 hsz5 hdx5 he5 hns5 => ?_)))))))
  have ns5 : h5.Ns hp.objs.size (fun y => ([("self", Value.ref e), ("at", x), ("name", nm)] : List (Str × Value)).reverse.lookup y) := by
    obtain ⟨oL, es, ep, hL, r⟩ := ns4
    exact ⟨oL, es, ep, k5 _ _ eL hL, r⟩
  have X5 : K.In h5 := fun b o z => k5 b o (fun y => by rw [y, hKe] at z; cases z) (X4 b o z)
  have fr : ∀ b o, b ≠ e → hp.get? b = some o → h4.get? b = some o := fun b o hb z => k4 b o hb (k3 _ _ (k2 _ _ (hk₁ _ _ z)))
  obtain ⟨o5, hdx5', _⟩ : ∃ o, h5.get? dx5 = some o ∧ True := by
    obtain ⟨o, _, _, z, _⟩ := hns5
    exact ⟨o, z, trivial⟩
  have I5 : W.InstAt h5 e { cls := .ref C, dict := some dx5, data := .fields #[.ref t1, .none, .none, .none, .bool false, .none] } C (some o5) := ⟨he5, rfl, rfl, hdx5'⟩
  refine ks_wpAt_execs_cons (ks_wpAt_Assign_Attr (wpAt_of_wpAny (nm_at I.kind kname ns5 rfl (by decide) (nm_at I.kind I.kself ns5 rfl (by decide) (set_plain X5 I5 M.oex.sa (PySem.OEX.osa_old (nl := ["at"]) X5 he5 hns5 (fun y hy => ?_) (by decide) hcC hrv hhd M.noname (fun h6 tk6 k6 hns6 => ?_)))))))
  · by_cases hyy : y = ("at" : Str)
    · simp [hyy]
    · simp [hyy] at hy
  have gone : hp.objs.size ≤ dx5 := by
    obtain ⟨oL, es, ep, hL, r⟩ := ns4
    exact Nat.le_trans (Nat.le_of_lt (Heap.lt_size hL)) hsz5
  refine wpAt_of_wpAny (wpAny_execs_nil (h h6 tk6 dx5 t1 (fun b o hb z => k6 b o (fun y => Nat.lt_irrefl _ (Nat.lt_of_lt_of_le (Heap.lt_size z) (y ▸ gone))) (k5 b o hb (fr b o hb z))) gone hdx5 (k6 _ _ (Ne.symm hdx5) he5) hns6))
/-- a class's body: super().__init__(at, "Name") -/
def subBody (wd : Str) (jw : Nat) (q : Fin 8 → Pos) : List Stmt :=
  [.Expr (.Call (.Attribute (.Call (.Name "super" (q 2)) [] [] (q 3)) "__init__" (q 4)) [.Name "at" (q 5), .Constant (.str wd) jw (q 6)] [] (q 7)) (q 7)]
theorem init_run {R : Result → Shared → Prop} {S f2 cc2 cda2 t0 : Addr} {qual2 : Str} {scope2 : Scope} {fd2 : FuncData} {wd : Str} {jw : Nat} {q : Fin 8 → Pos} {q2 : Fin 16 → Pos} (I : Ini prog K C f cc cda qual scope (subBody wd jw q) fd) (hl1 : ((q 4).endLine == (q 7).line) = true)
    (I2 : Ini prog K S f2 cc2 cda2 qual2 scope2 (baseBody q2) fd2) (kname : scope2.names.lookup ("name" : Str) = some .local) (hl2 : ((q2 4).endLine == (q2 6).line) = true) (M : Mk K C S) (hup : ks_superIn K C C "__init__" = some (some (.ref f2))) (hself : mroIn K C (.ref C) = some true)
    (ty2 : ∃ o, K.lookup f2 = some o ∧ o.cls = .type "function")
    (X : K.In hp) (hKe : K.lookup e = none) (G : Gs hp) (hroom : A.depth + 1 < recursionLimit)
    (he : hp.get? e = some (PySem.HandSPX.excO C t0)) {x : Value} (hb : ∀ s : Shared, K.In s.heap → BindsTo s fd ⟨[.ref e, x], []⟩ [("self", .ref e), ("at", x)])
    (hb2 : ∀ (s : Shared) (nm : Value), K.In s.heap → BindsTo s fd2 ⟨[.ref e, x, nm], []⟩ [("self", .ref e), ("at", x), ("name", nm)])
    (h : ∀ h' tk' dx t1 tk0, (∀ b o, b ≠ e → hp.get? b = some o → h'.get? b = some o) → hp.objs.size ≤ dx → dx ≠ e → h'.get? e = some { cls := .ref C, dict := some dx, data := .fields #[.ref t1, .none, .none, .none, .bool false, .none] } →
      h'.Ns1 dx (fun y => if y = ("name" : Str) then some (.str wd tk0) else if y = ("at" : Str) then some x else none) → R (.ok (.ret .none)) ⟨h', g, d, tk', os⟩) :
    codeAny (model prog w) A (.call (.ref f) ⟨[.ref e, x], []⟩) R ⟨hp, g, d, t, os⟩ := by
  obtain ⟨oc, od, osl, lk⟩ := I.lk
  obtain ⟨name, params, dV, kV, doc, pm, an, ct, rfl⟩ := I.fdE
  refine ks_codeAny_call_defAt (binds := [("self", .ref e), ("at", x)]) (Nat.lt_of_le_of_lt (Nat.le_succ _) hroom) (X _ _ lk) rfl G.lim (codeRec_of X I.cd) rfl (hb _ X) I.nocell (fun y hy => ?_) (fun h₁ hns hk₁ => ?_) I.co I.gen I.kind
  · simp only [List.mem_cons, List.not_mem_nil, or_false] at hy
    rcases hy with rfl | rfl
    · exact I.kself
    · exact I.kat
  have X1 := X.keeps hk₁
  have G1 := G.keeps hk₁
  have he1 := hk₁ _ _ he
  have hi : interactive (ksEnv qual scope hp.objs.size f (.ref cda) cc) = false := by
    unfold interactive
    simp [I.kind]
  show _root_.PySem.wpAt _ _ (.func (subBody wd jw q) (ksEnv qual scope hp.objs.size f (.ref cda) cc)) (execs (subBody wd jw q) (ksEnv qual scope hp.objs.size f (.ref cda) cc)) _ _ _
  have hev := meth_eq (o := .Call (.Name "super" (q 2)) [] [] (q 3)) (name := "__init__") (apos := q 4) (pos := q 7) (args := [.Name "at" (q 5), .Constant (.str wd) jw (q 6)]) (env := ksEnv qual scope hp.objs.size f (.ref cda) cc) hl1 rfl
  refine ks_wpAt_execs_cons (ks_wpAt_Expr_any (ks_wpAt_MethodCall (super_at I X1 G1 hns rfl he1 rfl (fun c z => by cases z) hself (fun h2 hso k2 => ?_)) hev) hi rfl)
  have X2 := X1.keeps k2
  have he2 := k2 _ _ he1
  obtain ⟨cdC, hcC, hrv, hhd⟩ := cls_of M
  have J2 : W.InstAt h2 e (PySem.HandSPX.excO C t0) C none := ⟨he2, rfl, rfl, trivial⟩
  have hal : alongIn K "__init__" ((cdC.mro.dropWhile (· != .ref C)).drop 1) = some (some (.ref f2)) := by
    have z := hup
    unfold ks_superIn at z
    rw [hcC] at z
    exact z
  obtain ⟨of2, lk2, hfc⟩ := ty2
  refine ks_wpAny_getMethod_super hso (looks_opaque X2 M.opq) (l₀ := cdC.mro) (fun A Q E s k q => wpAny_bind ((looks_clsIn X2 hcC) A _ E s k (wpAny_pure q))) rfl X2 hal (X2 _ _ lk2) hfc (ks_ne X2 J2 hcC) (by decide) ?_
  have hu : (h2.push (methodObj (.ref f2) (.ref e))).get? h2.objs.size = some (methodObj (.ref f2) (.ref e)) := Heap.get?_push_size h2 rfl
  have k3 : ∀ b o, h2.get? b = some o → (h2.push (methodObj (.ref f2) (.ref e))).get? b = some o := fun b o => Heap.get?_push_of_some _
  have ns3 := (hns.keeps k2).keeps k3
  have fn2 : fnIn K f2 = true := by
    obtain ⟨oc2, od2, osl2, lk2'⟩ := I2.lk
    unfold fnIn
    rw [lk2']
  show wpAny _ _ (callWith (q 7) (.ref h2.objs.size) [] (backTo (q 7) (starEach [.Name "at" (q 5), .Constant (.str wd) jw (q 6)] _)) []) _ _ _
  refine callWith_of (P := MethP K h2.objs.size f2 (.ref e)) rfl (keeps_M fn2) (evalArgs_plain (spliced_cons ?_))
  refine nm_at I.kind I.kat ns3 rfl (by decide) ?_
  refine spliced_cons (Calls.Constant_str (k := jw) (pos := q 6) (spliced_nil ⟨⟨hu, X2.keeps k3⟩, ?_⟩))
  refine wpAny_call (method_call hu ?_)
  refine base_run (t0 := t0) I2 kname hl2 M (X2.keeps k3) hKe ((G1.keeps k2).keeps k3) ?_ (k3 _ _ he2) (fun s Y => hb2 s _ Y) (fun h4 tk4 dx4 t4 k4 gsz hdx he4 hns4 => ?_)
  · show A.depth + 1 < _
    exact hroom
  refine wpAt_of_wpAny (wpAny_execs_nil (h h4 tk4 dx4 t4 _ (fun b o hb z => k4 b o hb (k3 _ _ (k2 _ _ (hk₁ _ _ z)))) ?_ hdx he4 hns4))
  obtain ⟨oL, es, ep, hL, r⟩ := ns3
  exact Nat.le_trans (Nat.le_of_lt (Heap.lt_size hL)) gsz
end
end Ex
end SW

set_option Elab.async false
set_option linter.all false
set_option maxRecDepth 100000
set_option maxHeartbeats 4000000
/-! isinstance(e, C), e a caught exception that has fields -/
namespace SW
open PySem PySem.Spec L2
open PyProof.Rows hiding St
/-- what an exception's class says of __class__ -/
structure IsiC (K : PySem.W.Frag) (D : Addr) : Prop where
  ha : PySem.W.findIn K (.ref D) "__class__" = some (some (.builtin "object.__class__"))
  hn : PySem.W.specialIn K (.builtin "object.__class__") "__get__" = some (some (.builtin "getset_descriptor.__get__"))
  ht : PySem.W.takesIn K (.builtin "object.__class__") = some true
  hm : PySem.W.mroIn K D (.type "object") = some true
def isiB (K : PySem.W.Frag) (D : Addr) : Bool := decide (PySem.W.findIn K (.ref D) "__class__" = some (some (.builtin "object.__class__"))) && (decide (PySem.W.specialIn K (.builtin "object.__class__") "__get__" = some (some (.builtin "getset_descriptor.__get__"))) &&
  (decide (PySem.W.takesIn K (.builtin "object.__class__") = some true) && decide (PySem.W.mroIn K D (.type "object") = some true)))
theorem isiB_ok {K : PySem.W.Frag} {D : Addr} (h : isiB K D = true) : IsiC K D := by
  unfold isiB at h
  simp only [Bool.and_eq_true, decide_eq_true_eq] at h
  exact ⟨h.1, h.2.1, h.2.2.1, h.2.2.2⟩
section
open PySem.W
variable {prog : Program} {w : World} {A : Around} {E : Value → Shared → Prop} {s : Shared} {K : Frag} {x D : Addr} {ox od : Obj}
theorem class_of_exc {Q : Option Value → Shared → Prop} (T : XfC K D) (C : IsiC K D) (X : K.In s.heap) (I : InstAt s.heap x ox D (some od)) (h : Q (some (.ref D)) { s with toks := s.toks + 1 }) : wpAny (model prog w) A (getAttr? (.ref x) "__class__") Q E s := by
  have hf : findObj K D (some od) "__class__" = some (.bind (.builtin "getset_descriptor.__get__") (.builtin "object.__class__")) := findObj_data (by obtain ⟨cd, hc, _⟩ := any_some T.hdC; rw [hc]; rfl) C.ha C.hn C.ht
  obtain ⟨hp, g, d, t, os⟩ := s
  have L0 := I.type (M := model prog w)
  have L1 := looks_findIn (M := model prog w) X T.ga
  have L2 := looks_findIn (M := model prog w) X T.gg
  have L3 := looks_find (M := model prog w) X I hf
  have sub : Looks (model prog w) hp (isInstance (.ref x) (.type "BaseException")) true := L0.andThen (looks_subIn X T.exC)
  have hx0 : (false && onTheHeap (Value.builtin "BaseException.__getattribute__")) = false := rfl
  have hx1 : (onTheHeap (Value.ref D) && Value.builtin "BaseException.__getattribute__" == Value.builtin "object.__getattribute__") = false := by
    rw [show (Value.builtin "BaseException.__getattribute__" == Value.builtin "object.__getattribute__") = false by decide +kernel]; rfl
  unfold getAttr? getAttrBy? getAttrBy
  refine wpAny_bind (wpAny_mkText (wpAny_bind (wpAny_attempt (wpAny_holding (wpAny_bind (L0.at (wpAny_bind (L1.at ?_))))))))
  show wpAny _ _ (if (onTheHeap (Value.ref D) && Value.builtin "BaseException.__getattribute__" == Value.builtin "object.__getattribute__") = true then _ else _) _ _ _
  rw [hx1, if_neg Bool.false_ne_true]
  unfold getAttrByItsOwn hookBefore
  refine wpAny_bind ?_
  rw [if_pos (show onTheHeap (Value.ref D) = true from rfl)]
  refine L2.at ?_
  refine wpAny_bind (wpAny_attempt (wpAny_holding ?_))
  unfold callGetattribute
  rw [hx0, if_neg Bool.false_ne_true]
  unfold boundAndCalled
  rw [PySem.F.excAttr_ValueError.ga.bind (.ref x)]
  refine wpAny_bind (wpAny_pure ?_)
  show wpAny _ _ (call (.builtin "BaseException.__getattribute__") [.ref x, .str "__class__" t]) _ _ _
  refine wpAny_call (codeAny_call_builtin PySem.F.excAttr_ValueError.ga.plain PySem.F.entry_bexc_ga ?_)
  refine @check_slot (model prog w) _ _ ⟨hp, g, d, t + 1, os⟩ "BaseException.__getattribute__" "BaseException" "__getattribute__" (.ref x) [.str "__class__" t] [] _ (by decide +kernel) (by decide +kernel) sub (PySem.F.args_bexc_ga (.ref x) (.str "__class__" t)) ?_
  unfold Builtin.«object.__getattribute__»
  refine wpAny_bind (wpAny_of_eq (a := ((Value.ref x : Value), [Value.str "__class__" t])) (by first | rfl | (simp only [slotArgs]; rfl)) ?_)
  refine wpAny_bind (wpAny_pure (wpAny_bind (L0.at (wpAny_bind (L3.at ?_)))))
  show wpAny _ _ (holding [Value.builtin "object.__class__"] (call (.builtin "getset_descriptor.__get__") [.builtin "object.__class__", .ref x, .ref D]) >>= ret) _ _ _
  refine wpAny_bind (wpAny_holding (wpAny_call (class_get (s := ⟨hp, g, d, t + 1, os⟩) (ox := ox) (od := some od) X I C.hm ?_)))
  refine wpAny_pure ?_
  show wpAny _ _ (handedOut (.ref D)) _ _ _
  rw [handedOut_of (v := .ref D) rfl]
  first
    | exact wpAny_pure (wpAny_pure h)
    | exact wpAny_pure h
    | exact wpAny_pure (wpAny_bind (wpAny_pure (wpAny_pure h)))
theorem kit_exc (T : XfC K D) (C : IsiC K D) : KitX K (.ref x) (.ref D) (fun h => InstAt h x ox D (some od)) := by
  obtain ⟨cdD, hcD, _⟩ := any_some T.hdC
  have there : ∃ c' d' cd' sl', K.lookup D = some ⟨c', d', .cls cd', sl'⟩ := by
    unfold clsIn at hcD
    split at hcD
    · exact ⟨_, _, _, _, by assumption⟩
    · cases hcD
  obtain ⟨c', d', cd', sl', ho⟩ := there
  exact {
    ty := fun _ _ _ I => I.type
    it := fun _ _ X _ A' Q' E' s' k q => by
      unfold isType loadHead
      exact wpAny_bind (wpAny_loadPart (k _ _ (X _ _ ho)) (wpAny_pure q))
    ne := fun h tp dd its n sl X htp => by
      refine Bool.eq_false_iff.mpr fun q => ?_
      have e : D = tp := Value.ref.inj (beq_iff_eq.mp q)
      subst e
      cases (X _ _ ho).symm.trans htp
    ca := fun X I k => class_of_exc T C X I k }
end
/-- isinstance(e, c), e the exception at a that the suite holds, d its dict -/
def rIsX (K : PySem.W.Frag) (D a : Addr) (d : Option Addr) : List V → Hp → VK → Prop := fun xs H Q => ∃ (c : V) (cv : Value) (b : Bool), xs = [.ref a, c] ∧ (∀ u, RelV c u → u = cv) ∧ PySem.W.kitOne K (.ref D) cv = some b ∧ (∃ dd fs, d = some dd ∧ H dd = some (.xd fs)) ∧ Q (.bl b) H
theorem call_isX {X : Cx} {a D : Addr} {oe : Obj} {d : Option Addr} {pn : List (Addr × Obj)} (T : XfC X.K D) (C : IsiC X.K D) (hz : Zc (.ref D) d oe) (hf : ∃ vs, oe.data = .fields vs) : CallR (X.suite a ((a, oe) :: pn)) (.builtin "isinstance") (rIsX X.K D a d) := by
  intro pins s σ H xs us Q I r h
  obtain ⟨c, cv, b, rfl, hcv, e, ⟨dd, fs, rfl, ha⟩, q⟩ := h
  obtain ⟨u1, u2, rfl, r1, r2⟩ := vals2 r
  obtain rfl : u1 = Value.ref a := r1
  have ec := hcv _ r2
  subst ec
  obtain ⟨hget, _⟩ := I.pin (a, oe) (List.mem_append.mpr (.inl List.mem_cons_self))
  obtain ⟨vs, hv⟩ := hf
  have hx : ObjOk X.prog X.w H s.heap dd (.xd fs) := I.hok dd _ ha
  obtain ⟨mA, hns, hr⟩ := hx
  obtain ⟨od, ho, hl⟩ := lookIn_ns hns
  have J : PySem.W.InstAt s.heap a oe D (some od) := ⟨hget, hz.1, by unfold PySem.W.notCls; rw [hv] <;> rfl, by rw [hz.2]; exact ho⟩
  exact PySem.W.kia_one (kit_exc T C) I.kIn J e (fun z => nomatch z) fun tk => ⟨.bl b, H, I.kept (t' := tk) fun _ _ z => z, rfl, q⟩
/-- what a handler asks is what isinstance asks -/
theorem kit_of_exm {K : PySem.W.Frag} {D : Addr} {c : Value} {b : Bool} (self : PySem.W.mroIn K D (.ref D) = some true) (h : PySem.W.exmOne K (.ref D) c = some b) : PySem.W.kitOne K (.ref D) c = some b := by
  unfold PySem.W.exmOne at h
  split at h
  case isFalse => cases h
  unfold PySem.W.kitOne
  split
  · rename_i e
    obtain rfl : Value.ref D = c := by simpa using e
    have h : (if ((PySem.W.clsIn K D).isSome && PySem.W.typeIn K (.ref D) == some (.type "type")) = true then PySem.W.mroIn K D (.ref D) else none) = some b := h
    obtain ⟨_, h⟩ := Option.ite_none_right_eq_some.mp h
    rw [← h, self]
  · exact h
end SW

set_option Elab.async false
set_option linter.all false
set_option maxRecDepth 100000
set_option maxHeartbeats 4000000
/-! what is seen of the exceptions' classes; C(x) -/
namespace SW
open PySem PySem.Spec L2
open PyProof.Rows hiding St
/-- a class's __init__ as it runs on a fresh instance -/
def Maker (prog : Program) (w : World) (K : PySem.W.Frag) (C f : Addr) (wd : Str) : Prop :=
  ∀ (A : Around) (R : Result → Shared → Prop) (hp : Heap) (g : Array GenState) (d : Drawn) (t : Nat) (os : OsState) (e t0 : Addr) (x : Value), K.In hp → K.lookup e = none → Ex.Gs hp → A.depth + 1 < recursionLimit → hp.get? e = some (PySem.HandSPX.excO C t0) →
    (∀ h' tk' dx t1 tk0, (∀ b o, b ≠ e → hp.get? b = some o → h'.get? b = some o) → hp.objs.size ≤ dx → dx ≠ e → h'.get? e = some { cls := .ref C, dict := some dx, data := .fields #[.ref t1, .none, .none, .none, .bool false, .none] } →
      h'.Ns1 dx (fun y => if y = ("name" : Str) then some (.str wd tk0) else if y = ("at" : Str) then some x else none) → R (.ok (.ret .none)) ⟨h', g, d, tk', os⟩) →
    codeAny (model prog w) A (.call (.ref f) ⟨[.ref e, x], []⟩) R ⟨hp, g, d, t, os⟩
structure XcD (prog : Program) (w : World) (K : PySem.W.Frag) (mg : Str → Option Value) (Cn : Str) (C : Addr) : Prop where
  mgC : mg Cn = some (.ref C)
  oex : L2.OexC K C
  ini : ∃ f, PySem.W.findIn K (.ref C) "__init__" = some (some (.ref f)) ∧ PySem.W.typeIn K (.ref f) = some (.type "function") ∧ Maker prog w K C f Cn
  xf : L2.XfC K C
  noat : PySem.W.findIn K (.ref C) "at" = some none
  isi : IsiC K C
  self : PySem.W.mroIn K C (.ref C) = some true
structure XcAll (prog : Program) (w : World) (K : PySem.W.Frag) (mg : Str → Option Value) (xl : List Str) : Prop where
  cls : ∀ Cn ∈ xl, ∃ C, XcD prog w K mg Cn C
  hdl : ∀ h, (h ∈ xl ∨ (h = ("SealError" : Str) ∧ xl ≠ [])) → ∃ Hh, mg h = some (.ref Hh) ∧ ∀ Cn ∈ xl, ∀ C, mg Cn = some (.ref C) → PySem.W.exmOne K (.ref C) (.ref Hh) = some (catches h Cn)
  sup : xl ≠ [] → mg ("super" : Str) = none
theorem XcAll.nil {prog : Program} {w : World} {K : PySem.W.Frag} {mg : Str → Option Value} : XcAll prog w K mg [] := ⟨fun _ h => by simp at h, fun _ h => by simp at h, fun h => absurd rfl h⟩
theorem gs_of {X : Cx} {pins : List (Addr × Obj)} {σ : St} {H : Hp} {s : Shared} (I : Inv X pins σ H s) (hs : X.mg ("super" : Str) = none) : Ex.Gs s.heap := by
  obtain ⟨mb, h1, h2⟩ := I.ok.mod.blt
  exact ⟨⟨_, I.ok.mod.glob.keeps I.bk, hs⟩, ⟨mb, h1.keeps I.bk, (h2 _ (by decide)).trans rfl⟩, I.nolimit⟩
/-- C(e) -/
def tMkX (C : Addr) (Cn : Str) (te : TE) : St → Hp → XK → Prop := fun σ H Q => te σ H fun x H1 => ∀ d, H1 d = none → Q (.ref C) (some d) (upd H1 d (.xd [("name", .str Cn), ("at", x)]))
theorem pmk_x {X : Cx} {Cn : Str} {C : Addr} {k : Nat} {e : Expr} {te : TE} {p pos : Pos} (T : XcD X.prog X.w X.K X.mg Cn C) (hsup : X.mg ("super" : Str) = none) (hr : Room k X.A) (hg : Gl X Cn) (ha : PA X [e] (tCons te tNil))
    (hdb : (Cn == ("__debug__" : Str)) = false) (he : starEach [e] X.env = [(false, eval e X.env)]) : PMk X (.Call (.Name Cn p) [e] [] pos) (tMkX C Cn te) := by
  intro pins s σ H Q I h
  obtain ⟨nm, q, N, bs, bm, sn, sub, ab, col, dd, k0, k1, k2, k3, k5, hC, hbm⟩ := T.oex.cls
  obtain ⟨fI, iC, tI, mk⟩ := T.ini
  refine wpAny_Call_Name_kw (ld_glob I hg T.mgC ?_ hdb)
  have hq : (tCons te tNil) σ H (fun vs H1 => match vs with
    | [x] => ∀ d, H1 d = none → Q (.ref C) (some d) (upd H1 d (.xd [("name", .str Cn), ("at", x)]))
    | _ => False) := h
  refine PySem.W.callWith_K (h₀ := X.base) I.ok.mod.kin T.oex.kC (thn (ha.run pos pins s σ H _ I hq) fun us s1 ⟨vs, H1, I1, r1, q1⟩ => ⟨I1.kIn, ?_⟩) he rfl
  cases r1 with
  | nil => exact q1.elim
  | @cons x u _ _ ru r' =>
  cases r' with
  | cons _ _ => exact q1.elim
  | nil =>
  show wpAny _ _ (call (.ref C) [u]) _ _ _
  obtain ⟨hp, g, dr, tk, os⟩ := s1
  have hsz : hp.objs.size ≤ hp.objs.size + 1 := Nat.le_succ _
  have hn : H1 (hp.objs.size + 1) = none := I1.hok.fresh hsz
  have kk : ∀ b o, hp.get? b = some o → ((hp.push (PySem.W.kdv_tup [u])).push (PySem.HandSPX.excO C hp.objs.size)).get? b = some o := fun b o e => Heap.get?_push_of_some _ (Heap.get?_push_of_some _ e)
  have hget : ((hp.push (PySem.W.kdv_tup [u])).push (PySem.HandSPX.excO C hp.objs.size)).get? (hp.objs.size + 1) = some (PySem.HandSPX.excO C hp.objs.size) := by heap_get
  have hnew : hp.get? (hp.objs.size + 1) = none := by
    cases z : hp.get? (hp.objs.size + 1) with
    | none => rfl
    | some o => exact absurd (Heap.lt_size z) (Nat.not_lt.mpr hsz)
  generalize hp2e : (hp.push (PySem.W.kdv_tup [u])).push (PySem.HandSPX.excO C hp.objs.size) = hp2 at kk hget
  have I2 : Inv X pins σ (upd H1 (hp.objs.size + 1) (exo (hp.objs.size + 1) C none)) ⟨hp2, g, dr, tk, os⟩ :=
    I1.laid (t' := tk) (a := hp.objs.size + 1) (o := exo (hp.objs.size + 1) C none) (h' := hp2) kk hsz (exo_ok hget)
  refine wpAny_call (PySem.HandSPX.call_own F.excBase_ValueError (fun Y => PySem.HandSPX.refsVE_contains Y bm hbm) (I1.kIn _ _ hC) (PySem.W.looks_findIn I1.kIn iC) (fun self => PySem.W.bind_fn I1.kIn self tI) (by simp [sizeLine_eq]) ?_)
  rw [hp2e]
  refine mk _ _ hp2 g dr tk os (hp.objs.size + 1) hp.objs.size u I2.kIn ?_ (gs_of I2 hsup) ?_ hget (fun h' tk' d t1 tk0 k hd hda he' hns => ?_)
  · cases z : X.K.lookup (hp.objs.size + 1) with
    | none => rfl
    | some o => rw [I1.kIn _ _ z] at hnew; cases hnew
  · rw [make_depth]
    have := hr.dp
    omega
  have hnd : (upd H1 (hp.objs.size + 1) (exo (hp.objs.size + 1) C none)) d = none := I2.hok.fresh hd
  have hnd1 : H1 d = none := by rw [upd_ne hda] at hnd; exact hnd
  have nd : ∀ {b : Addr} {o : Obj}, hp2.get? b = some o → b ≠ d := fun {b o} q => Nat.ne_of_lt (Nat.lt_of_lt_of_le (Heap.lt_size q) hd)
  refine ⟨rfl, ?_⟩
  generalize hae : hp.objs.size + 1 = a at *
  have rn : RelV (.str Cn) (.str Cn tk0) := by
    show ∃ t, _
    exact ⟨tk0, rfl⟩
  have rel : ∀ f : Str, RelO (([("name", .str Cn), ("at", x)] : List (Str × V)).lookup f) (if f = ("name" : Str) then some (.str Cn tk0) else if f = ("at" : Str) then some u else none) := fun f => relO_put (fs := [("at", x)]) (mA := fun f => if f = ("at" : Str) then some u else none) rn (relO_put (fs := []) (mA := fun _ => none) ru fun _ => trivial) f
  have na : ∀ {b : Addr}, upd H1 a (exo a C none) b = none → b ≠ a := fun {b} n z => by
    rw [z, upd_same] at n
    cases n
  have ea0 : upd H1 a (exo a C none) a = some (exo a C none) := upd_same
  have Un1 : Un (frs X.stack) [] (upd H1 a (exo a C none)) (upd (upd (upd H1 a (exo a C none)) d (exd d [("name", .str Cn), ("at", x)])) a (exo a C (some d))) hp2 h' := {
    keep := fun b o q n _ _ => k b o (na n) q
    slot := fun b o q n _ _ => ⟨o.slots, k b o (na n) q⟩
    free := fun b o q n _ => by rw [upd_ne (na n), upd_ne (nd q)]; exact n
    there := fun b o q _ => by
      by_cases hb : b = a
      · exact ⟨_, by rw [hb]; exact he'⟩
      · exact ⟨o, k b o hb q⟩
    tups := fun b xs q => by rw [upd_ne (at_ne ea0 q exo_tup), upd_ne (ne_of_none q hnd)]; exact q
    frzs := fun b o v q => by rw [upd_ne (at_ne ea0 q exo_frz), upd_ne (ne_of_none q hnd)]; exact q
    tbls := fun b ps q => ⟨#[], by rw [upd_ne (at_ne ea0 q exo_tbl), upd_ne (ne_of_none q hnd), q]; simp⟩ }
  have hok : HOk X.prog X.w (upd (upd (upd H1 a (exo a C none)) d (exd d [("name", .str Cn), ("at", x)])) a (exo a C (some d))) h' := fun b o q => by
    by_cases hb : b = a
    · subst hb
      rw [upd_same] at q
      cases q
      exact exo_ok he'
    · rw [upd_ne hb] at q
      by_cases hbd : b = d
      · subst hbd
        rw [upd_same] at q
        cases q
        exact exd_ok hns rel
      · rw [upd_ne hbd] at q
        refine (I2.hok b o q).stay (fun c v hc z => k c v ?_ z) (fun c hc => by rw [upd_ne (at_ne ea0 hc exo_own), upd_ne (ne_of_none hc hnd)]; exact hc) (fun c xs hc => by rw [upd_ne (at_ne ea0 hc exo_tup), upd_ne (ne_of_none hc hnd)]; exact hc)
        rcases hc with hc | hc
        · rw [hc]
          exact hb
        · exact at_ne ea0 hc exo_own
  have hn1 : H1 a = none := hn
  have e2 : ∀ Y : HO, upd (del (upd (upd (upd H1 a (exo a C none)) d Y) a (exo a C (some d))) a) d (.xd [("name", .str Cn), ("at", x)]) = upd H1 d (.xd [("name", .str Cn), ("at", x)]) := fun Y => by
    funext b
    by_cases hbd : b = d
    · rw [hbd, upd_same, upd_same]
    · rw [upd_ne hbd, upd_ne hbd]
      by_cases hb : b = a
      · rw [hb, del_same, hn1]
      · rw [del_ne hb, upd_ne hb, upd_ne hbd, upd_ne hb]
  refine mk_end (fs := [("name", .str Cn), ("at", x)]) (raises_own T.oex.exC T.oex.tyC) I1 hsz kk Un1 hok rfl I2.bare upd_same ?_ hnd1 ?_
  · exact (upd_ne hda).trans upd_same
  · rw [e2]
    exact q1 d hnd1
end SW

set_option Elab.async false
set_option linter.all false
set_option maxRecDepth 100000
set_option maxHeartbeats 2000000
/-! a program's expressions run as their terms -/
namespace SW
open PySem PySem.Spec L2
open PyProof.Rows hiding St
/-- a def that may be called -/
structure CallAt (xl : List Str) (X : Cx) (k : Nat) (x : Str) (m np : Nat) (call : List O → C) where
  callf : List O → C
  dfl : List D
  f : Addr
  fd : FuncData
  ps : List Str
  ds : List Value
  F : FnOk X.prog X.w X.K X.mg X.base (L2.CX X.prog X.w) k f fd ps (spF X.mg xl np callf)
  mg : X.mg x = some (.ref f)
  kp : PySem.W.keepIn X.K (.ref f) = true
  bd : Binds X.K fd ps ds
  rd : Vals (dfl.map atomV) ds
  at_ : dfl.all isAtom = true
  len : m + dfl.length = np
  eq : ∀ os, os.length = m → call os = callf (os ++ dfl.map O.val)
structure XOk (Wx : Wish) (X : Cx) (c : Cfg) (cx : Ctx) (k : Nat) : Prop where
  sc : X.env.scope = c.sc
  N : X.N = c.N
  nodup : c.N.Nodup
  calm : X.calm = true
  room : Room k X.A
  fns : ∀ x np nd, c.fn x = some (np, nd) → ∀ m, m ≤ np → np ≤ m + nd → Nonempty (CallAt c.exc X k x m np (cx.call x))
  con : ∀ x d, c.con.lookup x = some d → isAtom d = true ∧ ∃ u, X.mg x = some u ∧ RelV (atomV d) u
  free : ∀ x ∈ c.free, X.mg x = none
  pass : ∃ E, Takes X (fun cls d _ H => E cls d H) ∧ ∀ e P H σ, Wx e P H σ → wishE X.mg c.exc E e P H σ
  exc : XcAll X.prog X.w X.K X.mg c.exc
theorem XOk.hu {Wx : Wish} {X : Cx} {c : Cfg} {cx : Ctx} {k : Nat} (o : XOk Wx X c cx k) : X.A.units + 65 < cLine := by have := o.room.un; omega
theorem takesE0 {X : Cx} : Takes X (fun cls d _ H => E0 cls d H) := fun _ _ ⟨_, _, _, _, _, _, _, _, _, _, _, _, _, _, _, _, z⟩ => z.elim
section
variable {Wx : Wish} {X : Cx} {c : Cfg} {cx : Ctx} {k : Nat}
theorem pe_bad {e : Expr} : PE X e (tE Wx (evE cx .bad)) := no_PE fun σ H Q h => by obtain ⟨P, ρ, A, ok, out⟩ := h; exact out.elim
theorem pt_bad {e : Expr} : PT X e (tB (tE Wx (evE cx .bad))) := no_PT fun σ H Q h => by obtain ⟨P, ρ, A, ok, out⟩ := h; exact out.elim
theorem slot_at {N : List Str} {x : Str} (h : slotNo N x < N.length) : N[slotNo N x]? = some x := by
  unfold slotNo at h ⊢
  have := List.findIdx_getElem (w := h)
  rw [List.getElem?_eq_getElem h]
  exact congrArg some (of_decide_eq_true this)
theorem vis_of {sc : Scope} {x : Str} (h : isVis sc x = true) : Vis sc x := by
  unfold isVis at h
  unfold Vis
  split at h <;> simp_all
theorem plain_of {x : Str} (h : plainN x = true) : (x == ("__debug__" : Str)) = false ∧ (x == ("__classdict__" : Str)) = false ∧ x ≠ "__name__" := by
  unfold plainN at h
  simp only [Bool.and_eq_true, Bool.not_eq_true'] at h
  exact ⟨h.1.1, h.1.2, fun e => by rw [e] at h; exact absurd h.2 (by decide)⟩
theorem gl_of (o : XOk Wx X c cx k) {x : Str} (h : isGl c x = true) : Gl X x ∧ plainN x = true := by
  unfold isGl at h
  rw [Bool.and_eq_true] at h
  refine ⟨?_, h.2⟩
  have h1 := h.1
  unfold Gl Env.kindOf
  rw [o.sc]
  split at h1
  · assumption
  · cases h1
theorem pe_varD (o : XOk Wx X c cx k) {x : Str} {p : Pos} {i : Nat} (hi : cVar c x = some i) : PE X (.Name x p) (tVar i) := by
  unfold cVar at hi
  split at hi
  case isFalse => cases hi
  rename_i h
  cases hi
  simp only [Bool.and_eq_true, decide_eq_true_eq] at h
  obtain ⟨⟨h1, h2⟩, h3⟩ := h
  obtain ⟨d1, d2, _⟩ := plain_of h2
  exact pe_var (X := X) (i := slotNo c.N x) (by rw [o.N]; exact slot_at h3) (by rw [o.sc]; exact vis_of h1) d1 d2
theorem pe_nameD (o : XOk Wx X c cx k) {x : Str} {p : Pos} : PE X (.Name x p) (tE Wx (evE cx (cName c x))) := by
  unfold cName
  split
  · rename_i i hi
    refine imp_PE (pe_varD o hi) fun σ H Q h => ?_
    obtain ⟨P, ρ, A, ok, out⟩ := h
    have out : Out Wx RA σ P H A (match slot ρ i with
      | some _ => .ok (.pl i) ρ
      | none => .bad) Q := out
    cases hs : slot ρ i with
    | none => rw [hs] at out; exact out.elim
    | some z =>
      rw [hs] at out
      obtain ⟨v, _, _, _, e1, _⟩ := ok.sl.at' hs
      exact ⟨v, e1, out.here ok ⟨rfl, e1⟩⟩
  · split
    case isFalse => exact pe_bad
    rename_i hg
    split
    case h_2 => exact pe_bad
    rename_i d hd
    obtain ⟨g, pl⟩ := gl_of o hg
    obtain ⟨d1, d2, _⟩ := plain_of pl
    obtain ⟨ha, u, hm, r⟩ := o.con _ _ hd
    refine imp_PE (pe_glob g hm r d1) fun σ H Q h => ?_
    obtain ⟨P, ρ, A, ok, out⟩ := h
    have out : Out Wx RA σ P H A (.ok (.vl (.val d)) ρ) Q := out
    exact out.val ok (rd_atom ha)
theorem pe_constD {q : Const} {k' : Nat} {p : Pos} {f : Option Str} : PE X (.Constant q k' p) (tE Wx (evE cx (cConst q))) := by
  cases q with
  | none => exact imp_PE pe_non fun σ H Q ⟨P, ρ, A, ok, out⟩ => (show Out Wx RA σ P H A (.ok (.vl (.val .none)) ρ) Q from out).val ok rd_none
  | bool b => exact imp_PE pe_bl fun σ H Q ⟨P, ρ, A, ok, out⟩ => (show Out Wx RA σ P H A (.ok (.vl (.val (.bool b))) ρ) Q from out).val ok rd_bool
  | int i => exact imp_PE pe_int fun σ H Q ⟨P, ρ, A, ok, out⟩ => (show Out Wx RA σ P H A (.ok (.vl (.val (.int i))) ρ) Q from out).val ok rd_int
  | str x => exact imp_PE pe_str fun σ H Q ⟨P, ρ, A, ok, out⟩ => (show Out Wx RA σ P H A (.ok (.vl (.val (.str x))) ρ) Q from out).val ok rd_str
  | _ => exact pe_bad
end
end SW

set_option Elab.async false
set_option linter.all false
set_option maxRecDepth 100000
set_option maxHeartbeats 2000000
namespace SW
open PySem PySem.Spec L2
open PyProof.Rows hiding St
/-- what is shown of all expressions -/
def Snd (n : Nat) : Prop := ∀ (Wx : Wish) (X : Cx) (c : Cfg) (cx : Ctx) (k : Nat), XOk Wx X c cx k → ∀ e, PE X e (tE Wx (evE cx (compE n c e))) ∧ PT X e (tB (tE Wx (evE cx (compE n c e))))
section
variable {Wx : Wish} {X : Cx} {c : Cfg} {cx : Ctx} {k n : Nat}
theorem pa_vals (S : Snd n) (o : XOk Wx X c cx k) : ∀ {es : List Expr}, noStar es = true → PA X es (tVs Wx (evVs cx (es.map (compE n c))))
  | [], _ => imp_PA pa_nil fun σ H Q h => im_nil h
  | e :: es, h => imp_PA (pa_cons (S Wx X c cx k o e).1 (pa_vals S o (noStar_tail h)) (star_cons h)) fun σ H Q h => im_vals h
theorem pa_ags (S : Snd n) (o : XOk Wx X c cx k) : ∀ {es : List Expr}, noStar es = true → PA X es (tG Wx RAs (evAs cx (es.map (compE n c))))
  | [], _ => imp_PA pa_nil fun σ H Q h => im_agN h
  | e :: es, h => imp_PA (pa_cons (S Wx X c cx k o e).1 (pa_ags S o (noStar_tail h)) (star_cons h)) fun σ H Q h => im_ags h
theorem evAs_len {c : Ctx} : ∀ (es : List ME) (ρ : Rho) (ds : List SW.A) (ρ' : Rho), evAs c es ρ = .ok ds ρ' → ds.length = es.length
  | [], ρ, ds, ρ', h => by cases h; rfl
  | e :: es, ρ, ds, ρ', h => by
    have h : kAs1 (evAs c es) (evE c e ρ) = .ok ds ρ' := h
    cases e1 : evE c e ρ with
    | bad => rw [e1] at h; cases h
    | exc _ _ => rw [e1] at h; cases h
    | ok x ρ1 =>
      rw [e1] at h
      simp only [kAs1] at h
      cases e3 : evAs c es ρ1 with
      | bad => rw [e3] at h; cases h
      | exc _ _ => rw [e3] at h; cases h
      | ok ds' ρ3 =>
        rw [e3] at h
        cases h
        rw [List.length_cons, List.length_cons, evAs_len es _ _ _ e3]
/-! ### and, or -/
theorem pe_andL (S : Snd n) (o : XOk Wx X c cx k) {p : Pos} : ∀ es : List Expr, PE X (.BoolOp .And es p) (tE Wx (evE cx (foldAnd (es.map (compE n c))))) ∧ PW X (.BoolOp .And es p) (tB (tE Wx (evE cx (foldAnd (es.map (compE n c))))))
  | [] => ⟨pe_bad, ⟨fun _ pins s σ H Q I w => by obtain ⟨P, ρ, A, ok, out⟩ := w; exact out.elim⟩⟩
  | [e] => ⟨pe_one (S Wx X c cx k o e).1, pw_and1 (S Wx X c cx k o e).2⟩
  | e :: e' :: es => by
    obtain ⟨h1, h2⟩ := pe_andL S o (p := p) (e' :: es)
    constructor
    · refine imp_PE (pe_and (S Wx X c cx k o e).1 h1) fun σ H Q h => ?_
      refine im_tst (y := evE cx (foldAnd ((e' :: es).map (compE n c)))) (n := cBool false) h fun H1 b hy hn => ⟨b, rfl, ?_⟩
      cases b with
      | true => rw [if_pos rfl]; exact hy rfl
      | false =>
        rw [if_neg Bool.false_ne_true]
        obtain ⟨P, ρ, A, ok, out⟩ := hn rfl
        exact Out.bool out ok
    · refine imp_PW (pw_and (S Wx X c cx k o e).2 h2) fun σ H Q h => ?_
      refine im_tst (y := evE cx (foldAnd ((e' :: es).map (compE n c)))) (n := cBool false) h fun H1 b hy hn => ⟨b, rfl, ?_⟩
      cases b with
      | true => rw [if_pos rfl]; exact hy rfl
      | false =>
        rw [if_neg Bool.false_ne_true]
        obtain ⟨P, ρ, A, ok, out⟩ := hn rfl
        obtain ⟨b, e, q⟩ := Out.bool out ok
        cases e
        exact q
theorem pe_orL (S : Snd n) (o : XOk Wx X c cx k) {p : Pos} : ∀ es : List Expr, PE X (.BoolOp .Or es p) (tE Wx (evE cx (foldOr (es.map (compE n c))))) ∧ PW X (.BoolOp .Or es p) (tB (tE Wx (evE cx (foldOr (es.map (compE n c))))))
  | [] => ⟨pe_bad, ⟨fun _ pins s σ H Q I w => by obtain ⟨P, ρ, A, ok, out⟩ := w; exact out.elim⟩⟩
  | [e] => ⟨pe_one (S Wx X c cx k o e).1, pw_or1 (S Wx X c cx k o e).2⟩
  | e :: e' :: es => by
    obtain ⟨h1, h2⟩ := pe_orL S o (p := p) (e' :: es)
    constructor
    · refine imp_PE (pe_or (S Wx X c cx k o e).1 h1) fun σ H Q h => ?_
      refine im_tst (n := evE cx (foldOr ((e' :: es).map (compE n c)))) (y := cBool true) h fun H1 b hy hn => ⟨b, rfl, ?_⟩
      cases b with
      | false => rw [if_neg Bool.false_ne_true]; exact hn rfl
      | true =>
        rw [if_pos rfl]
        obtain ⟨P, ρ, A, ok, out⟩ := hy rfl
        exact Out.bool out ok
    · refine imp_PW (pw_or (S Wx X c cx k o e).2 h2) fun σ H Q h => ?_
      refine im_tst (n := evE cx (foldOr ((e' :: es).map (compE n c)))) (y := cBool true) h fun H1 b hy hn => ⟨b, rfl, ?_⟩
      cases b with
      | false => rw [if_neg Bool.false_ne_true]; exact hn rfl
      | true =>
        rw [if_pos rfl]
        obtain ⟨P, ρ, A, ok, out⟩ := hy rfl
        obtain ⟨b, e, q⟩ := Out.bool out ok
        cases e
        exact q
/-! ### not, minus, if -/
theorem pe_notD (S : Snd n) (o : XOk Wx X c cx k) {a : Expr} {p : Pos} : PE X (.UnaryOp .Not a p) (tE Wx (evE cx (.notE (compE n c a)))) ∧ PT X (.UnaryOp .Not a p) (tB (tE Wx (evE cx (.notE (compE n c a))))) := by
  constructor
  · refine imp_PE (pe_not (S Wx X c cx k o a).1) fun σ H Q h => ?_
    refine im_look (f := fNot) h fun P1 H1 ρ1 A1 d v o1 vd out => ?_
    cases d with
    | bool b => exact ⟨b, vw_bool vd, Out.bool out o1⟩
    | _ => exact out.elim
  · refine imp_PT (pt_not (S Wx X c cx k o a).2) fun σ H Q h => ?_
    refine im_look (f := fNot) h fun P1 H1 ρ1 A1 d v o1 vd out => ?_
    cases d with
    | bool b =>
      obtain ⟨b', e, q⟩ := Out.bool out o1
      cases e
      exact ⟨b, vw_bool vd, q⟩
    | _ => exact out.elim
theorem pe_negD (S : Snd n) (o : XOk Wx X c cx k) {a : Expr} {p : Pos} : PE X (.UnaryOp .USub a p) (tE Wx (evE cx (.neg (compE n c a)))) := by
  refine imp_PE (pe_un un_neg (S Wx X c cx k o a).1) fun σ H Q h => ?_
  refine im_look (f := fNeg) h fun P1 H1 ρ1 A1 d v o1 vd out => ?_
  cases d with
  | int b => exact ⟨b, vw_int vd, Out.int out o1⟩
  | _ => exact out.elim
theorem pt_ifE {t a b : Expr} {p : Pos} {tt ta tb : TT} (ht : PT X t tt) (ha : PT X a ta) (hb : PT X b tb) : PT X (.IfExp t a b p) (fun σ H Q => tt σ H fun b H1 => if b = true then ta σ H1 Q else tb σ H1 Q) := by
  refine ⟨fun pins s σ H Q I h => ?_⟩
  have e : PySem.isTrue (.IfExp t a b p) X.env (eval (.IfExp t a b p) X.env) = (do if ← PySem.isTrue t X.env (eval t X.env) then PySem.isTrue a X.env (eval a X.env) else PySem.isTrue b X.env (eval b X.env)) := by
    rw [PySem.isTrue]
  rw [e]
  refine wpAny_bind (thn (ht.run pins s σ H _ I h) fun d s1 ⟨H1, I1, q1⟩ => ?_)
  cases d with
  | true => exact ha.run pins s1 σ H1 Q I1 q1
  | false => exact hb.run pins s1 σ H1 Q I1 q1
theorem pe_ifD (S : Snd n) (o : XOk Wx X c cx k) {t a b : Expr} {p : Pos} : PE X (.IfExp t a b p) (tE Wx (evE cx (.ifE (compE n c t) (compE n c a) (compE n c b)))) ∧ PT X (.IfExp t a b p) (tB (tE Wx (evE cx (.ifE (compE n c t) (compE n c a) (compE n c b))))) := by
  constructor
  · refine imp_PE (pe_ifExp (S Wx X c cx k o t).2 (S Wx X c cx k o a).1 (S Wx X c cx k o b).1) fun σ H Q h => ?_
    refine im_tst (y := evE cx (compE n c a)) (n := evE cx (compE n c b)) h fun H1 d hy hn => ⟨d, rfl, ?_⟩
    cases d with
    | true => rw [if_pos rfl]; exact hy rfl
    | false => rw [if_neg Bool.false_ne_true]; exact hn rfl
  · refine imp_PT (pt_ifE (S Wx X c cx k o t).2 (S Wx X c cx k o a).2 (S Wx X c cx k o b).2) fun σ H Q h => ?_
    refine im_tst (y := evE cx (compE n c a)) (n := evE cx (compE n c b)) h fun H1 d hy hn => ⟨d, rfl, ?_⟩
    cases d with
    | true => rw [if_pos rfl]; exact hy rfl
    | false => rw [if_neg Bool.false_ne_true]; exact hn rfl
/-! ### comparisons -/
theorem no_marks {op : CmpOp} {b : Expr} (h : isSet b ≠ true) : behindInMarks op b = false := by
  cases b <;> first | rfl | exact absurd rfl h
theorem pe_cmpD (S : Snd n) (o : XOk Wx X c cx k) {op : CmpOp} {a b : Expr} {p : Pos} (hs : isSet b ≠ true) : PE X (.Compare a [op] [b] p) (tE Wx (evE cx (.cmp op (compE n c a) (compE n c b)))) ∧ PT X (.Compare a [op] [b] p) (tB (tE Wx (evE cx (.cmp op (compE n c a) (compE n c b))))) :=
  ⟨imp_PE (pe_cmpR (op_cmpD (Wx := Wx) o.hu op) (S Wx X c cx k o a).1 (S Wx X c cx k o b).1 (no_marks hs)) fun σ H Q h => im_bin h,
   imp_PT (pt_cmpR (op_cmpD (Wx := Wx) o.hu op) (S Wx X c cx k o a).1 (S Wx X c cx k o b).1 (no_marks hs)) fun σ H Q h => im_bin h⟩
theorem pe_chnD (S : Snd n) (o : XOk Wx X c cx k) {op1 op2 : CmpOp} {a b d : Expr} {p : Pos} (hs : isSet d ≠ true) : PE X (.Compare a [op1, op2] [b, d] p) (tE Wx (evE cx (.chn op1 op2 (compE n c a) (compE n c b) (compE n c d)))) ∧ PT X (.Compare a [op1, op2] [b, d] p) (tB (tE Wx (evE cx (.chn op1 op2 (compE n c a) (compE n c b) (compE n c d))))) :=
  ⟨imp_PE (pe_chain (op_cmpD (Wx := Wx) o.hu op1) (op_cmpD (Wx := Wx) o.hu op2) (S Wx X c cx k o a).1 (S Wx X c cx k o b).1 (S Wx X c cx k o d).1 (no_marks hs)) fun σ H Q h => im_chn h,
   imp_PT (pt_chain (op_cmpD (Wx := Wx) o.hu op1) (op_cmpD (Wx := Wx) o.hu op2) (S Wx X c cx k o a).1 (S Wx X c cx k o b).1 (S Wx X c cx k o d).1 (no_marks hs)) fun σ H Q h => im_chn h⟩
/-! ### displays, subscripts -/
theorem pe_tupD (S : Snd n) (o : XOk Wx X c cx k) {es : List Expr} {q : Nat} {p : Pos} (hs : noStar es = true) (hl : es.length ≤ 1000) : PE X (.Tuple es q p) (tE Wx (evE cx (.tupE (es.map (compE n c))))) :=
  imp_PE (pe_tup (pa_vals S o hs)) fun σ H Q h => im_tup (fun ρ ds ρ' e => by rw [evVs_len _ _ _ _ e, List.length_map]; exact hl) h
theorem pe_lstD (S : Snd n) (o : XOk Wx X c cx k) {es : List Expr} {p : Pos} (hs : noStar es = true) (hl : es.length ≤ 1000) : PE X (.List es p) (tE Wx (evE cx (.lstE (es.map (compE n c))))) :=
  imp_PE (pe_lst (pa_vals S o hs)) fun σ H Q h => im_lst (fun ρ ds ρ' e => by rw [evVs_len _ _ _ _ e, List.length_map]; exact hl) h
theorem plainIx {b : Expr} (h : isSlice b ≠ true) : PlainIx b := by
  intro x i
  cases b <;> first | rfl | exact absurd rfl h
theorem pe_ixD (S : Snd n) (o : XOk Wx X c cx k) {a b : Expr} {p : Pos} (hs : isSlice b ≠ true) : PE X (.Subscript a b p) (tE Wx (evE cx (.idx (compE n c a) (compE n c b)))) :=
  imp_PE (pe_ix (ix_D (Wx := Wx) o.hu) (S Wx X c cx k o a).1 (S Wx X c cx k o b).1 (plainIx hs)) fun σ H Q h => im_bin h
theorem po_D (S : Snd n) (o : XOk Wx X c cx k) : ∀ lo : Option Expr, PO X lo (tG Wx RPt (evP cx (lo.map (compE n c))))
  | none => po_none'
  | some e => po_some' (S Wx X c cx k o e).1
theorem pe_slcD (S : Snd n) (o : XOk Wx X c cx k) {a : Expr} {lo hi : Option Expr} {p p2 : Pos} : PE X (.Subscript a (.Slice lo hi none p2) p) (tE Wx (evE cx (.slc (compE n c a) (lo.map (compE n c)) (hi.map (compE n c))))) :=
  imp_PE (pe_slice (sl_D (Wx := Wx)) (S Wx X c cx k o a).1 (po_D S o lo) (po_D S o hi)) fun σ H Q h => im_slc h
theorem pe_binD (S : Snd n) (o : XOk Wx X c cx k) {op : Operator} {a b : Expr} {p : Pos} : PE X (.BinOp a op b p) (tE Wx (evE cx (.bin op (compE n c a) (compE n c b)))) :=
  imp_PE (pe_op (op_binD (Wx := Wx) op) (S Wx X c cx k o a).1 (S Wx X c cx k o b).1) fun σ H Q h => im_bin h
/-! ### calls -/
theorem pe_callD (S : Snd n) (o : XOk Wx X c cx k) {f : Str} {np nd : Nat} {args : List Expr} {p p2 : Pos} (hf : c.fn f = some (np, nd)) (h1 : args.length ≤ np) (h2 : np ≤ args.length + nd) (h3 : args ≠ []) (hg : isGl c f = true) (hs : noStar args = true) :
    PE X (.Call (.Name f p2) args [] p) (tE Wx (evE cx (.call f (args.map (compE n c))))) := by
  obtain ⟨C⟩ := o.fns f np nd hf args.length h1 h2
  obtain ⟨g, pl⟩ := gl_of o hg
  obtain ⟨d1, _, _⟩ := plain_of pl
  cases args with
  | nil => exact absurd rfl h3
  | cons e es =>
    obtain ⟨E, hp, hw⟩ := o.pass
    refine imp_PE (pe_call (E := E) C.F o.room g C.mg C.kp C.bd C.rd (passes_call hp fun _ _ _ _ h => h) (pa_ags (Wx := Wx) S o hs) d1 (star_cons hs) (plain_star (noStar_tail hs))) fun σ H Q h => ?_
    exact im_call hw C.at_ C.len (fun ρ x ρ' e => by rw [evAs_len _ _ _ _ e, List.length_map]) (call := cx.call f) C.eq h
def bltV : Blt → Value
  | .len => .builtin "len"
  | .list => .type "list"
  | .tuple => .type "tuple"
  | .int => .type "int"
  | .all => .builtin "all"
  | .any => .builtin "any"
  | .dict => .type "dict"
  | .sorted => .builtin "sorted"
  | .str => .type "str"
  | .set => .type "set"
theorem no_blt {b : Blt} (h : ∀ d, bltD b d = none) {f : Value} : CallR X f (rB1 Wx (fBlt b)) := by
  intro pins s σ0 H xs us Q I rs q
  obtain ⟨x, rfl, P, σ, ρ, A, d, ok, vd, out⟩ := q
  unfold fBlt at out
  rw [h d] at out
  exact out.elim
theorem tyOf_at (o : XOk Wx X c cx k) {e : Expr} {t : String} (h : tyOf c e = some t) : PE X e (tC (.ty t)) ∧ t ∈ tys := by
  cases e with
  | Name x p =>
    have h : (if isGl c x && c.free.contains x then tyNames.lookup x else none) = some t := h
    split at h
    case isFalse => cases h
    rename_i hh
    rw [Bool.and_eq_true] at hh
    obtain ⟨g, pl⟩ := gl_of o hh.1
    obtain ⟨d1, _, d3⟩ := plain_of pl
    have hm := o.free x (by simpa using hh.2)
    have key : ∀ p ∈ tyNames, bootBuiltins p.1 = some (.type p.2) ∧ p.2 ∈ tys := by
      intro p hp
      simp only [tyNames, List.mem_cons, List.not_mem_nil, or_false] at hp
      rcases hp with rfl | rfl | rfl | rfl | rfl | rfl
      · exact ⟨boot_str, by decide⟩
      · exact ⟨boot_int, by decide⟩
      · exact ⟨boot_bool, by decide⟩
      · exact ⟨boot_tuple, by decide⟩
      · exact ⟨boot_list, by decide⟩
      · exact ⟨boot_dict, by decide⟩
    obtain ⟨k1, k2⟩ := key _ (PySem.mem_of_lookup h)
    exact ⟨pe_bltn g hm k1 rfl d3 d1, k2⟩
  | _ => cases h
theorem tysOf_at (o : XOk Wx X c cx k) : ∀ {es : List Expr} {ts : List String}, noStar es = true → tysOf c es = some ts → PA X es (tTys ts) ∧ (∀ t ∈ ts, t ∈ tys) ∧ ts.length = es.length
  | [], _, _, h => by cases h; exact ⟨pa_nil, (fun _ q => nomatch q), rfl⟩
  | e :: es, ts, hs, h => by
    have h : (match tyOf c e, tysOf c es with
      | some t, some ts => some (t :: ts)
      | _, _ => none) = some ts := h
    cases h1 : tyOf c e with
    | none => rw [h1] at h; cases h
    | some t =>
      cases h2 : tysOf c es with
      | none => rw [h1, h2] at h; cases h
      | some ts' =>
        rw [h1, h2] at h
        cases h
        obtain ⟨p1, p2⟩ := tyOf_at o h1
        obtain ⟨q1, q2, q3⟩ := tysOf_at o (noStar_tail hs) h2
        refine ⟨pa_cons p1 q1 (star_cons hs), fun u hu => ?_, by rw [List.length_cons, List.length_cons, q3]⟩
        rcases List.mem_cons.mp hu with z | z
        · rw [z]; exact p2
        · exact q2 u z
theorem boot_isinstance : bootBuiltins "isinstance" = some (.builtin "isinstance") := by decide +kernel
theorem pe_isiD (S : Snd n) (o : XOk Wx X c cx k) {a t : Expr} {p p2 : Pos} (hg : isGl c "isinstance" = true) (hf : c.free.contains ("isinstance" : Str) = true) (hs : noStar [a, t] = true) :
    PE X (.Call (.Name "isinstance" p2) [a, t] [] p) (tE Wx (evE cx (cIsi c (compE n c a) t))) := by
  obtain ⟨g, pl⟩ := gl_of o hg
  obtain ⟨d1, _, d3⟩ := plain_of pl
  have hm := o.free "isinstance" (by simpa using hf)
  have one : ∀ ty, tyOf c t = some ty → PE X (.Call (.Name "isinstance" p2) [a, t] [] p) (tE Wx (evE cx (.isi (compE n c a) [ty] false))) := fun ty h => by
    obtain ⟨p1, p2'⟩ := tyOf_at o h
    exact imp_PE (pe_callB (cr_isi1 (Wx := Wx) p2') g hm boot_isinstance (pa_cons (S Wx X c cx k o a).1 (pa_cons p1 pa_nil (star_cons (noStar_tail hs))) (star_cons hs)) d3 d1 (star_cons hs) (plain_star (noStar_tail hs))) fun σ H Q h => im_isi1 h
  cases t with
  | Tuple es q p3 =>
    unfold cIsi
    dsimp only
    split
    · rename_i ts ht
      split
      · rename_i hh
        rw [Bool.and_eq_true, decide_eq_true_eq] at hh
        obtain ⟨q1, q2, q3⟩ := tysOf_at o hh.1 ht
        exact imp_PE (pe_callB (cr_isiN (Wx := Wx) q2) g hm boot_isinstance (pa_cons (S Wx X c cx k o a).1 (pa_cons (pe_tup q1) pa_nil (star_cons (noStar_tail hs))) (star_cons hs)) d3 d1 (star_cons hs) (plain_star (noStar_tail hs))) fun σ H Q h => im_isiN (by omega) h
      · exact pe_bad
    · exact pe_bad
  | Name x p3 =>
    unfold cIsi
    dsimp only
    split
    · rename_i ty h
      exact one ty h
    · exact pe_bad
  | _ => exact pe_bad
end
end SW

set_option Elab.async false
set_option linter.all false
set_option maxRecDepth 100000
set_option maxHeartbeats 2000000
/-! dicts: put, dict of pairs -/
namespace SW
open PySem PySem.Spec L2
open PyProof.Rows hiding St
theorem rk_cons {P : Hp} {k d : D} {r : List (D × D)} {ks : List (Key × V)} (h : RK P ((k, d) :: r) ks) : ∃ q v t, ks = (q, v) :: t ∧ k = keyD q ∧ RD P d v ∧ RK P r t := by rw [RK] at h; exact h
theorem rk_mk {P : Hp} {d : D} {q : Key} {v : V} {r : List (D × D)} {t : List (Key × V)} (h1 : RD P d v) (h2 : RK P r t) : RK P ((keyD q, d) :: r) ((q, v) :: t) := by rw [RK]; exact ⟨q, v, t, rfl, rfl, h1, h2⟩
theorem rt_cons {P : Hp} {k d : D} {r : List (D × D)} {ks : List (List Key × V)} (h : RT P ((k, d) :: r) ks) : ∃ q v t, ks = (q, v) :: t ∧ k = keysD q ∧ RD P d v ∧ RT P r t := by rw [RT] at h; exact h
theorem rt_mk {P : Hp} {d : D} {q : List Key} {v : V} {r : List (D × D)} {t : List (List Key × V)} (h1 : RD P d v) (h2 : RT P r t) : RT P ((keysD q, d) :: r) ((q, v) :: t) := by rw [RT]; exact ⟨q, v, t, rfl, rfl, h1, h2⟩
theorem rk_nil {P : Hp} : RK P [] [] := by rw [RK]
theorem rt_nil {P : Hp} : RT P [] [] := by rw [RT]
theorem rk_any {P : Hp} (q : Key) : ∀ {kvs : List (D × D)} {ks : List (Key × V)}, RK P kvs ks → (kvs.any fun p => PyData.eqv p.1 (keyD q)) = ks.any fun kv => decide (kv.1 = q)
  | [], _, h => by rw [RK] at h; subst h; rfl
  | (k, d) :: r, _, h => by
    obtain ⟨q', v, t, rfl, rfl, h1, h2⟩ := rk_cons h
    rw [List.any_cons, List.any_cons, rk_any q h2, keyD_eqv]
theorem rt_any {P : Hp} (q : List Key) : ∀ {kvs : List (D × D)} {ks : List (List Key × V)}, RT P kvs ks → (kvs.any fun p => PyData.eqv p.1 (keysD q)) = ks.any fun kv => decide (kv.1 = q)
  | [], _, h => by rw [RT] at h; subst h; rfl
  | (k, d) :: r, _, h => by
    obtain ⟨q', v, t, rfl, rfl, h1, h2⟩ := rt_cons h
    rw [List.any_cons, List.any_cons, rt_any q h2, keysD_eqv]
theorem rk_map {P : Hp} {q : Key} {d : D} {v : V} (rv : RD P d v) : ∀ {kvs : List (D × D)} {ks : List (Key × V)}, RK P kvs ks → RK P (kvs.map fun p => if PyData.eqv p.1 (keyD q) = true then (p.1, d) else p) (ks.map fun kv => if kv.1 = q then (kv.1, v) else kv)
  | [], _, h => by rw [RK] at h; subst h; exact rk_nil
  | (k, e) :: r, _, h => by
    obtain ⟨q', w, t, rfl, rfl, h1, h2⟩ := rk_cons h
    rw [List.map_cons, List.map_cons]
    dsimp only
    rw [keyD_eqv]
    by_cases z : q' = q
    · rw [if_pos (decide_eq_true z), if_pos z]; exact rk_mk rv (rk_map rv h2)
    · rw [if_neg (by rw [decide_eq_false z]; exact Bool.false_ne_true), if_neg z]; exact rk_mk h1 (rk_map rv h2)
theorem rt_map {P : Hp} {q : List Key} {d : D} {v : V} (rv : RD P d v) : ∀ {kvs : List (D × D)} {ks : List (List Key × V)}, RT P kvs ks → RT P (kvs.map fun p => if PyData.eqv p.1 (keysD q) = true then (p.1, d) else p) (ks.map fun kv => if kv.1 = q then (kv.1, v) else kv)
  | [], _, h => by rw [RT] at h; subst h; exact rt_nil
  | (k, e) :: r, _, h => by
    obtain ⟨q', w, t, rfl, rfl, h1, h2⟩ := rt_cons h
    rw [List.map_cons, List.map_cons]
    dsimp only
    rw [keysD_eqv]
    by_cases z : q' = q
    · rw [if_pos (decide_eq_true z), if_pos z]; exact rt_mk rv (rt_map rv h2)
    · rw [if_neg (by rw [decide_eq_false z]; exact Bool.false_ne_true), if_neg z]; exact rt_mk h1 (rt_map rv h2)
theorem rk_app {P : Hp} {q : Key} {d : D} {v : V} (rv : RD P d v) : ∀ {kvs : List (D × D)} {ks : List (Key × V)}, RK P kvs ks → RK P (kvs ++ [(keyD q, d)]) (ks ++ [(q, v)])
  | [], _, h => by rw [RK] at h; subst h; exact rk_mk rv rk_nil
  | (k, e) :: r, _, h => by
    obtain ⟨q', w, t, rfl, rfl, h1, h2⟩ := rk_cons h
    exact rk_mk h1 (rk_app rv h2)
theorem rt_app {P : Hp} {q : List Key} {d : D} {v : V} (rv : RD P d v) : ∀ {kvs : List (D × D)} {ks : List (List Key × V)}, RT P kvs ks → RT P (kvs ++ [(keysD q, d)]) (ks ++ [(q, v)])
  | [], _, h => by rw [RT] at h; subst h; exact rt_mk rv rt_nil
  | (k, e) :: r, _, h => by
    obtain ⟨q', w, t, rfl, rfl, h1, h2⟩ := rt_cons h
    exact rt_mk h1 (rt_app rv h2)
theorem RK.put {P : Hp} {q : Key} {d : D} {v : V} (rv : RD P d v) {kvs : List (D × D)} {ks : List (Key × V)} (h : RK P kvs ks) : RK P (dput kvs (keyD q) d) (putK ks q v) := by
  unfold dput putK
  rw [rk_any q h]
  split
  · exact rk_map rv h
  · exact rk_app rv h
theorem RT.put {P : Hp} {q : List Key} {d : D} {v : V} (rv : RD P d v) {kvs : List (D × D)} {ks : List (List Key × V)} (h : RT P kvs ks) : RT P (dput kvs (keysD q) d) (putK ks q v) := by
  unfold dput putK
  rw [rt_any q h]
  split
  · exact rt_map rv h
  · exact rt_app rv h
/-- an owned dict, at a key -/
theorem dct_put {P H : Hp} {a : Addr} {kvs : List (D × D)} {k d : D} {y v : V} (ro : RO P H [a] (.dct kvs) (.ref a)) (sub : ∀ a o, P a = some o → H a = some o) (hk : keyFits kvs k = true) (hl : kvs.length < sizeLine) (ry : RD P k y) (rv : RD P d v) :
    ∃ u, DP H a y v (upd H a u) ∧ RO P (upd H a u) [a] (.dct (dput kvs k d)) (.ref a) := by
  obtain ⟨b, e, e2, pa, w⟩ := ro
  cases e
  rcases vw_key sub (fits_key hk) (RD.vw sub ry) with ⟨q, rfl, rfl⟩ | ⟨q, b, rfl, rfl, hb⟩
  · rcases w with ⟨ks, h1, h2⟩ | ⟨ts, h1, h2⟩
    · exact ⟨_, .inl (.inl ⟨ks, q, h1, rfl, by rw [← h2.length]; exact hl, rfl⟩), a, rfl, rfl, pa, .inl ⟨_, upd_same, h2.put rv⟩⟩
    · have := fits_keyD hk h2
      subst this
      rw [RT] at h2
      subst h2
      exact ⟨.dK [(q, v)], .inr (.inl ⟨h1, q, rfl, rfl⟩), a, rfl, rfl, pa, .inl ⟨_, upd_same, rk_mk rv rk_nil⟩⟩
  · rcases w with ⟨ks, h1, h2⟩ | ⟨ts, h1, h2⟩
    · have := fits_keysD hk h2
      subst this
      rw [RK] at h2
      subst h2
      exact ⟨.dT [(q, v)], .inr (.inr ⟨h1, b, q, rfl, hb, rfl⟩), a, rfl, rfl, pa, .inr ⟨_, upd_same, rt_mk rv rt_nil⟩⟩
    · exact ⟨_, .inl (.inr ⟨ts, q, b, h1, rfl, hb, by rw [← h2.length]; exact hl, rfl⟩), a, rfl, rfl, pa, .inr ⟨_, upd_same, h2.put rv⟩⟩
/-! ### dict of a list of pairs -/
theorem dput_keys {kvs : List (D × D)} {k d : D} {p : D × D} (h : p ∈ kvs) : ∃ p' ∈ dput kvs k d, p'.1 = p.1 := by
  unfold dput
  split
  · refine ⟨_, List.mem_map.mpr ⟨p, h, rfl⟩, ?_⟩
    split <;> rfl
  · exact ⟨p, List.mem_append_left _ h, rfl⟩
theorem all_kind : ∀ {kvs acc res : List (D × D)}, dputAll acc kvs = some res → ∀ p ∈ acc, ∀ x ∈ kvs, isKey x.1 = true ∧ sameKind p.1 x.1 = true
  | [], _, _, _, _, _, x, hx => by cases hx
  | (k, v) :: r, acc, res, h, p, hp, x, hx => by
    have h : (if keyFits acc k = true then dputAll (dput acc k v) r else none) = some res := h
    split at h
    case isFalse => cases h
    rename_i hk
    unfold keyFits at hk
    rw [Bool.and_eq_true, List.all_eq_true] at hk
    rcases List.mem_cons.mp hx with z | z
    · subst z; exact ⟨hk.1, hk.2 p hp⟩
    · obtain ⟨p', h1, h2⟩ := dput_keys (k := k) (d := v) hp
      rw [← h2]
      exact all_kind h p' h1 x z
/-- the pairs, with plain keys -/
theorem pairs_k {P H : Hp} {K : PySem.W.Frag} (sub : ∀ a o, P a = some o → H a = some o) : ∀ {ds : List D} {vs : List V} {kvs : List (D × D)}, RDs P ds vs → pairsOf ds = some kvs → (∀ x ∈ kvs, isKey1 x.1 = true) →
    ∃ (ps : List Addr) (ks : List (Key × V)), vs = ps.map V.ref ∧ Paired (fun p kv => SqT K H p [kV kv.1, kv.2]) ps ks ∧ RK P kvs ks
  | [], _, _, r, h, _ => by cases h; rw [r.nil_inv]; exact ⟨[], [], rfl, .nil, rk_nil⟩
  | d :: ds, vs, kvs, r, h, hk => by
    obtain ⟨v, t, rfl, h1, h2⟩ := r.inv
    have key : ∃ k x, d = .tuple [k, x] := by
      cases d with
      | tuple l =>
        match l, h with
        | [k, x], _ => exact ⟨k, x, rfl⟩
        | [], h => cases h
        | [_], h => cases h
        | _ :: _ :: _ :: _, h => cases h
      | _ => cases h
    obtain ⟨k, x, rfl⟩ := key
    obtain ⟨kvs', e, rfl⟩ := map_some (show (pairsOf ds).map ((k, x) :: ·) = some kvs from h)
    obtain ⟨ps, ks, rfl, h3, h4⟩ := pairs_k (K := K) sub h2 e fun y hy => hk y (by simp [hy])
    rw [RD] at h1
    obtain ⟨a, ws, rfl, h5, h6⟩ := h1
    obtain ⟨w1, w2, rfl, h7, h8⟩ := two_inv h6
    obtain ⟨q, rfl, rfl⟩ := rd_key1 (hk (k, x) (by simp)) h7
    exact ⟨a :: ps, (q, w2) :: ks, rfl, .cons (.inl (.inl (sub _ _ h5))) h3, rk_mk h8 h4⟩
theorem mergeK_ok {P : Hp} : ∀ {kvs acc res : List (D × D)} {ks acc' : List (Key × V)}, dputAll acc kvs = some res → RK P acc acc' → RK P kvs ks → RK P res (mergeK acc' ks)
  | [], _, _, _, _, h, r1, r2 => by cases h; rw [RK] at r2; subst r2; exact r1
  | (k, v) :: r, acc, res, _, acc', h, r1, r2 => by
    obtain ⟨q, w, t, rfl, rfl, h1, h2⟩ := rk_cons r2
    have h : (if keyFits acc (keyD q) = true then dputAll (dput acc (keyD q) v) r else none) = some res := h
    split at h
    case isFalse => cases h
    exact mergeK_ok (acc' := putK acc' q w) h (r1.put h1) h2
/-- the pairs, with tuples for keys: the pair's place, the key, its place, the value -/
inductive PrT (H : Hp) : List Addr → List (List Key × Addr × V) → Prop where
  | nil : PrT H [] []
  | cons {p b : Addr} {q : List Key} {v : V} {ps ks} (h1 : H p = some (.tup [.ref b, v])) (h2 : H b = some (.tup (q.map kV))) (h : PrT H ps ks) : PrT H (p :: ps) ((q, b, v) :: ks)
theorem pairs_t {P H : Hp} (sub : ∀ a o, P a = some o → H a = some o) : ∀ {ds : List D} {vs : List V} {kvs : List (D × D)}, RDs P ds vs → pairsOf ds = some kvs → (∀ x ∈ kvs, isKey x.1 = true ∧ ∃ l, x.1 = .tuple l) →
    ∃ (ps : List Addr) (ks : List (List Key × Addr × V)), vs = ps.map V.ref ∧ PrT H ps ks ∧ RT P kvs (ks.map fun x => (x.1, x.2.2))
  | [], _, _, r, h, _ => by cases h; rw [r.nil_inv]; exact ⟨[], [], rfl, .nil, rt_nil⟩
  | d :: ds, vs, kvs, r, h, hk => by
    obtain ⟨v, t, rfl, h1, h2⟩ := r.inv
    have key : ∃ k x, d = .tuple [k, x] := by
      cases d with
      | tuple l =>
        match l, h with
        | [k, x], _ => exact ⟨k, x, rfl⟩
        | [], h => cases h
        | [_], h => cases h
        | _ :: _ :: _ :: _, h => cases h
      | _ => cases h
    obtain ⟨k, x, rfl⟩ := key
    obtain ⟨kvs', e, rfl⟩ := map_some (show (pairsOf ds).map ((k, x) :: ·) = some kvs from h)
    obtain ⟨ps, ks, rfl, h3, h4⟩ := pairs_t sub h2 e fun y hy => hk y (by simp [hy])
    rw [RD] at h1
    obtain ⟨a, ws, rfl, h5, h6⟩ := h1
    obtain ⟨w1, w2, rfl, h7, h8⟩ := two_inv h6
    obtain ⟨hk1, l, hl⟩ := hk (k, x) (by simp)
    dsimp only at hk1 hl
    subst hl
    rcases vw_key sub hk1 (RD.vw sub h7) with ⟨q, e, _⟩ | ⟨q, b, e, rfl, hb⟩
    · cases q <;> cases e
    · rw [e]
      exact ⟨a :: ps, (q, b, w2) :: ks, rfl, .cons (sub _ _ h5) hb h3, rt_mk h8 h4⟩
def mergeT (kvs : List (List Key × V)) (more : List (List Key × V)) : List (List Key × V) := more.foldl (fun acc kv => putK acc kv.1 kv.2) kvs
theorem mergeT_ok {P : Hp} : ∀ {kvs acc res : List (D × D)} {ks acc' : List (List Key × V)}, dputAll acc kvs = some res → RT P acc acc' → RT P kvs ks → RT P res (mergeT acc' ks)
  | [], _, _, _, _, h, r1, r2 => by cases h; rw [RT] at r2; subst r2; exact r1
  | (k, v) :: r, acc, res, _, acc', h, r1, r2 => by
    obtain ⟨q, w, t, rfl, rfl, h1, h2⟩ := rt_cons r2
    have h : (if keyFits acc (keysD q) = true then dputAll (dput acc (keysD q) v) r else none) = some res := h
    split at h
    case isFalse => cases h
    exact mergeT_ok (acc' := putK acc' q w) h (r1.put h1) h2
theorem length_mergeT : ∀ (more kvs : List (List Key × V)), (mergeT kvs more).length ≤ kvs.length + more.length
  | [], kvs => by show kvs.length ≤ kvs.length + 0; omega
  | p :: r, kvs => by
    have h1 := length_mergeT r (putK kvs p.1 p.2)
    have h2 := length_putK kvs p.1 p.2
    show (mergeT (putK kvs p.1 p.2) r).length ≤ _
    rw [List.length_cons]; omega
section
variable {Wx : Wish} {X : Cx} {pins : List (Addr × Obj)} {σ : St} {H : Hp} {s : Shared}
theorem prt_of (I : Inv X pins σ H s) : ∀ {ps : List Addr} {ks : List (List Key × Addr × V)}, PrT H ps ks → ∃ us : List (List Key × Addr × Value), us.length = ps.length ∧
    (∀ j : Nat, ∀ q, us[j]? = some q → ∃ p, ps[j]? = some p ∧ IsTup s.heap p #[.ref q.2.1, q.2.2] ∧ H q.2.1 = some (.tup (q.1.map kV))) ∧ ∀ {acc : List (List Key × V)} {xs : List (List Key × Addr × Value)}, KT H acc xs → KT H (mergeT acc (ks.map fun x => (x.1, x.2.2))) (storedAllH xs us)
  | _, _, .nil => ⟨[], rfl, fun j q e => by simp at e, fun h => h⟩
  | _, _, .cons (p := p) (b := b) (q := q) (v := v) h1 h2 h => by
    obtain ⟨us, e1, e2, e3⟩ := prt_of I h
    obtain ⟨its, rv, ht, _⟩ := I.tuple (.of h1 : SqT X.K H p [.ref b, v])
    obtain ⟨u1, u2, rfl, r1, r2⟩ := vals2 rv
    cases (show u1 = Value.ref b from r1)
    refine ⟨(q, b, u2) :: us, by rw [List.length_cons, List.length_cons, e1], fun j z e => ?_, fun {acc xs} r => ?_⟩
    · cases j with
      | zero =>
        cases Option.some.inj e
        exact ⟨p, rfl, ht, h2⟩
      | succ j =>
        obtain ⟨p', w1, w2, w3⟩ := e2 j z (by simpa using e)
        exact ⟨p', by simpa using w1, w2, w3⟩
    · exact e3 (r.put q h2 r2)
theorem cr_dictT (hu : X.A.units + 65 < cLine) (hc : X.calm = true) : CallR X (.type "dict") (fun xs H Q => ∃ (a : Addr) (ps : List Addr) (ks : List (List Key × Addr × V)), xs = [.ref a] ∧ SqL X.K H a (ps.map V.ref) ∧ PrT H ps ks ∧
    ∀ p, H p = none → Q (.ref p) (upd H p (.dT (mergeT [] (ks.map fun x => (x.1, x.2.2)))))) := by
  intro pins s σ H xs us Q I r q
  obtain ⟨a, ps, ks, rfl, hq, hp, q⟩ := q
  obtain ⟨u, rfl, rx⟩ := vals1 r
  cases rx
  obtain ⟨its, rv, pl, hz⟩ := I.list hq
  have ei := refs_at rv
  subst ei
  rw [List.length_map] at hz
  obtain ⟨us, el, hj, hK⟩ := prt_of I hp
  obtain ⟨o, n, ho, hcl, hd, hdat⟩ := pl
  have lk : ks.length = ps.length := by
    clear hK hj el hdat hd hcl ho hz rv hq r q
    induction hp with
    | nil => rfl
    | cons _ _ _ ih => rw [List.length_cons, List.length_cons, ih]
  have hh := I.ok.hd hc
  let ts : Nat → Addr := fun j => ps[j]?.getD 0
  let prs : List (Value × Value) := us.map fun x => (.ref x.2.1, x.2.2)
  have ok : PlainSeq "list" s.heap a (ps.map Value.ref).toArray ∧ PairItems s.heap (ps.map Value.ref).toArray ts prs := by
    refine ⟨⟨o, n, ho, hcl, hd, hdat⟩, by simp [prs, el], fun j k v e => ?_⟩
    have e : (us.map fun x => ((.ref x.2.1 : Value), x.2.2))[j]? = some (k, v) := e
    rw [List.getElem?_map] at e
    obtain ⟨z, h1, h2⟩ := map_some e
    cases h2
    obtain ⟨p, w1, w2, _⟩ := hj j z h1
    obtain ⟨o2, x1, x2, m, x3⟩ := w2
    refine ⟨by simp [ts, w1], .inl ?_⟩
    simp only [ts, w1, Option.getD_some]
    exact ⟨o2, x1, x2, m, x3⟩
  have hkey : ∀ x ∈ us, H x.2.1 = some (.tup (x.1.map kV)) := fun x hx => by
    obtain ⟨j, hj', e⟩ := List.mem_iff_getElem.mp hx
    obtain ⟨_, _, _, w⟩ := hj j x (by rw [List.getElem?_eq_getElem hj', e])
    exact w
  have hroom : (tupleKind (mixKind X.prog X.w)).room X.A.in1.in1 := by
    have z : X.A.in1.units + 1 < cLine := by
      show X.A.units + 1 + 1 < cLine
      omega
    exact tupleKind_room_in1 z
  have hP := PairArg.list (prog := X.prog) (w := X.w) a (ps.map Value.ref).toArray ts prs
  refine PySem.call_dict_pairsH (knd := tupleKind (mixKind X.prog X.w)) (ps := us) hP hh hroom ok ⟨by simp [prs], fun i key v e => ?_⟩ (fun h' hs x hx => ?_) (by simp only [prs, List.length_map]; rw [el]; exact hz) fun h' tk hd' hk => ?_
  · have e : (us.map fun x => ((.ref x.2.1 : Value), x.2.2))[i]? = some (key, v) := e
    rw [List.getElem?_map] at e
    obtain ⟨z, h1, h2⟩ := map_some e
    cases h2
    exact ⟨z.1, z.2.1, h1, rfl⟩
  · obtain ⟨o2, its2, n2, z1, z2, z3, z4⟩ := key_of I.hok (hkey x hx)
    exact ⟨o2, its2, n2, hs _ _ (Nat.ne_of_lt (Heap.lt_size z1)) List.not_mem_nil z1, z2, z3, z4⟩
  · have hm : (s.heap.objs.size == sysModules) = false := beq_eq_false_iff_ne.mpr (Nat.ne_of_gt I.big)
    have hlen : (mergeT [] (ks.map fun x => (x.1, x.2.2))).length ≤ sizeLine := by
      refine Nat.le_trans (length_mergeT _ []) ?_
      rw [List.length_nil, Nat.zero_add, List.length_map, lk]
      exact hz
    obtain ⟨od, es, ep, g1, g2, g3, g4, _, g5⟩ := hd'
    have fr := I.hok.fresh (Nat.le_refl s.heap.objs.size)
    refine ⟨.ref s.heap.objs.size, upd H s.heap.objs.size (.dT _), I.laid (t' := tk) (fun b u e => hk b u List.not_mem_nil e) (Nat.le_refl _) (show ObjOk X.prog X.w _ _ _ (.dT _) from ⟨hlen, hm, _, (hK .nil).keeps fun b ys e => ?_, od, es, ep, g1, g2, g3, g4, g5⟩), rfl, q _ fr⟩
    rw [upd_ne (ne_of_none e fr)]
    exact e
theorem Out.dct {P : Hp} {ρ : Rho} {A : List Addr} {Q : VK} {kvs : List (D × D)} (h : Out Wx RA σ P H A (.ok (.vl (.dct kvs)) ρ) Q) (ok : Ok P H σ ρ A) : (∀ p ks, H p = none → RK P kvs ks → Q (.ref p) (upd H p (.dK ks))) ∧ ∀ p ts, H p = none → RT P kvs ts → Q (.ref p) (upd H p (.dT ts)) :=
  ⟨fun p ks hp r => h.dK ok hp r, fun p ts hp r => h.dT ok hp r⟩
theorem cr_dict0 (hu : X.A.units + 65 < cLine) (hc : X.calm = true) : CallR X (.type "dict") (rBn Wx (fBlt .dict)) := by
  intro pins s σ0 H xs us Q I rs h
  obtain ⟨x, rfl, P, σ, ρ, A, d, ok, vd, out, nd⟩ := h
  unfold fBlt at out
  cases d with
  | list ds =>
    obtain ⟨a, vs, rfl, h1, h2⟩ := vd
    have out : Out Wx RA σ P H A (rO (if ds.length ≤ 1000000 then ((pairsOf ds).bind (dputAll [])).map .dct else none) ρ) Q := out
    split at out
    case isFalse => exact out.elim
    cases hp : pairsOf ds with
    | none => rw [hp] at out; exact out.elim
    | some kvs =>
      rw [hp] at out
      have out : Out Wx RA σ P H A (rO ((dputAll [] kvs).map .dct) ρ) Q := out
      cases hr : dputAll [] kvs with
      | none => rw [hr] at out; exact out.elim
      | some res =>
        rw [hr] at out
        have out : Out Wx RA σ P H A (.ok (.vl (.dct res)) ρ) Q := out
        have kk : (∀ x ∈ kvs, isKey1 x.1 = true) ∨ ∀ x ∈ kvs, isKey x.1 = true ∧ ∃ l, x.1 = .tuple l := by
          cases kvs with
          | nil => exact .inl fun x hx => nomatch hx
          | cons p r =>
            obtain ⟨k, v⟩ := p
            have hr : (if keyFits [] k = true then dputAll (dput [] k v) r else none) = some res := hr
            split at hr
            case isFalse => cases hr
            rename_i hk
            have hk1 := fits_key hk
            have al := all_kind hr (k, v) (by simp [dput])
            by_cases z : ∃ l, k = .tuple l
            · obtain ⟨l, rfl⟩ := z
              refine .inr fun x hx => ?_
              rcases List.mem_cons.mp hx with e | hx
              · subst e; exact ⟨hk1, l, rfl⟩
              · obtain ⟨a1, a2⟩ := al x hx
                refine ⟨a1, ?_⟩
                cases e : x.1 with
                | tuple m => exact ⟨m, rfl⟩
                | _ => rw [e] at a2; cases a2
            · refine .inl fun x hx => ?_
              rcases List.mem_cons.mp hx with e | hx
              · subst e
                cases k with
                | tuple l => exact absurd ⟨l, rfl⟩ z
                | int _ => rfl
                | str _ => rfl
                | _ => cases hk1
              · obtain ⟨a1, a2⟩ := al x hx
                cases e : x.1 with
                | tuple m =>
                  rw [e] at a2
                  cases k with
                  | tuple l => exact absurd ⟨l, rfl⟩ z
                  | _ => cases a2
                | int _ => rfl
                | str _ => rfl
                | _ => rw [e] at a1; cases a1
        rcases kk with kk | kk
        · obtain ⟨ps, ks, rfl, h3, h4⟩ := pairs_k (K := X.K) ok.sub h2 hp kk
          exact call_dictP hc pins s σ0 H _ us Q I rs ⟨a, ps, ks, rfl, .inl h1, h3, fun p hp => out.dK ok hp (mergeK_ok hr rk_nil h4)⟩
        · obtain ⟨ps, ks, rfl, h3, h4⟩ := pairs_t ok.sub h2 hp kk
          exact cr_dictT hu hc pins s σ0 H _ us Q I rs ⟨a, ps, ks, rfl, .inl h1, h3, fun p hp => out.dT ok hp (mergeT_ok hr rt_nil h4)⟩
  | dict kvs => exact absurd rfl (nd kvs)
  | _ => exact out.elim
end
end SW

set_option Elab.async false
set_option linter.all false
set_option maxRecDepth 100000
set_option maxHeartbeats 2000000
/-! dict comprehensions -/
namespace SW
open PySem PySem.Spec L2
open PyProof.Rows hiding St
/-- the state of a comprehension at a turn -/
structure DcSt (σ : St) (is : List Nat) (P1 H1 : Hp) (A1 : List Addr) (D : Addr) (ρ : Rho) (acc : List (SW.D × SW.D)) (P H : Hp) (A : List Addr) : Prop where
  ext : Ext (D :: A1) P1 H1 P H
  ok : Ok P H (wipe σ is) ρ A
  ndD : D ∉ A
  new : New A1 H1 A
  pD : P D = none
  hD : ∃ vs, H D = some (.dK vs) ∧ RK P acc vs
/-- on from a state of a comprehension -/
theorem DcSt.go {σ : St} {is : List Nat} {P1 H1 : Hp} {A1 : List Addr} {D : Addr} {ρ ρ' : Rho} {acc : List (SW.D × SW.D)} {P H P' H' : Hp} {A A' : List Addr} (s : DcSt σ is P1 H1 A1 D ρ acc P H A) (hd : H1 D = none) (x : Ext A P H P' H') (o : Ok P' H' (wipe σ is) ρ' A') (n : New A H A') :
    DcSt σ is P1 H1 A1 D ρ' acc P' H' A' := by
  obtain ⟨vs, e, r⟩ := s.hD
  have he : H D ≠ none := by rw [e]; simp
  refine ⟨s.ext.trans (A' := D :: A) (x.mono (A' := D :: A) fun a ha => List.mem_cons_of_mem D ha) ?_, o, fun z => ?_, ?_, x.none s.pD s.ndD he, vs, x.kept D _ e s.ndD s.pD, RK.keep x.keep acc vs r⟩
  · intro a ha
    rcases List.mem_cons.mp ha with z | z
    · subst z; exact .inl (by simp)
    · exact (s.new a z).imp (List.mem_cons_of_mem _) id
  · rcases n D z with w | w
    · exact s.ndD w
    · exact he w
  · exact s.new.trans n fun a q => s.ext.there a q
theorem elt_two {ea eb : Rho → R SW.A} {ρ3 ρ4 ρ5 ρ6 ρ7 : Rho} {z z2 : SW.A} {d5 d7 : SW.D} (he : ea ρ3 = .ok z ρ4) (hf : frz z ρ4 = some (d5, ρ5)) (he2 : eb ρ5 = .ok z2 ρ6) (hf2 : frz z2 ρ6 = some (d7, ρ7)) :
    elt1 (fun ρ => kTup (kTwo eb (ea ρ))) ρ3 = .ok (some (.tuple [d5, d7])) ρ7 := by
  have e : kTwo eb (ea ρ3) = .ok [d5, d7] ρ7 := by simp only [he, he2, kFrz, kVals1, kVals2, kTwo, hf, hf2]
  simp only [elt1, e, kTup]
  rfl
theorem im_dc {K : PySem.W.Frag} {Wx : Wish} {σ : St} {t : MT} {cnd : Option (Rho → R SW.A)} {ea eb : Rho → R SW.A} {Q : VK} {cond : Rho → R (Option D)}
    (hcond : cond = condC (fun ρ => kTup (kTwo eb (ea ρ))) cnd)
    (nd : t.slots.Nodup) {P1 H1 : Hp} {ρ1 : Rho} {A1 : List Addr} {ds : List D} {J : It} (o1 : Ok P1 H1 σ ρ1 A1) (w : Walked P1 J ds) (out : Out Wx RA σ P1 H1 A1 (dcAll t cond ds ρ1) Q) (D : Addr) (hD : H1 D = none) :
    ∃ W : Nat → Nat → Hp → Prop, (∃ m, W 0 m (upd H1 D (.dK []))) ∧ ∀ i m H, W i m H →
      (J.stop i H ∧ Q (.ref D) H) ∨ (J.go i H ∧ ∃ Nx : Hp → Prop, (∀ H', Nx H' → ∃ m', m' < m ∧ W (i + 1) m' H') ∧ ∀ x H', J.yld i H x H' → gT K t x (wipe σ t.slots) H' fun σ2 H2 => wipe σ2 t.slots = wipe σ t.slots ∧ ttC cnd σ2 H2 fun b H3 =>
        if b = true then (tE noWish ea) σ2 H3 fun y H4 => (tE noWish eb) σ2 H4 fun z H5 => ∃ kvs k, y = kV k ∧ H5 D = some (.dK kvs) ∧ kvs.length < sizeLine ∧ Nx (upd H5 D (.dK (putK kvs k z))) else Nx H3) := by
  obtain ⟨vs, okH, wk, rv, hok⟩ := w
  unfold dcAll at out
  split at out
  case isFalse => exact out.elim
  rename_i free
  have hl : ∀ i ∈ t.slots, i < ρ1.length := fun i hi => of_decide_eq_true (Bool.and_eq_true_iff.mp (List.all_eq_true.mp free i hi)).1
  have dA1 : D ∉ A1 := o1.fresh hD
  have pD1 : P1 D = none := o1.noneP hD
  obtain ⟨res, hres⟩ : ∃ r, r = dcL (lcTurn t cond) ds [] (wipeR ρ1 t.slots) := ⟨_, rfl⟩
  rw [← hres] at out
  cases res with
  | bad => exact out.elim
  | exc e ρ' =>
    exfalso
    have : ∀ (f : SW.D → Rho → R (Option SW.D)) (ds : List SW.D) (acc : List (SW.D × SW.D)) (ρ : Rho), dcL f ds acc ρ ≠ .exc e ρ' := by
      intro f ds
      induction ds with
      | nil => intro acc ρ h; cases h
      | cons d ds ih =>
        intro acc ρ h
        unfold dcL at h
        split at h
        · split at h
          · exact ih _ _ h
          · cases h
        · exact ih _ _ h
        · cases h
    exact this _ _ _ _ hres.symm
  | ok accE ρE =>
    refine ⟨fun i m H => m = ds.length - i ∧ i ≤ ds.length ∧ ∃ P ρ A acc, DcSt σ t.slots P1 H1 A1 D ρ acc P H A ∧ ρ.length = ρ1.length ∧ dcL (lcTurn t cond) (ds.drop i) acc ρ = .ok accE ρE, ⟨ds.length, rfl, Nat.zero_le _, ?_⟩, ?_⟩
    · obtain ⟨A', o', s'⟩ := o1.wipe t.slots
      have hn : ∀ a ∈ A', a ∈ A1 := fun a ha => s'.subset ha
      refine ⟨P1, wipeR ρ1 t.slots, A', [], ⟨(ext_new _ hD o1.sub).mono fun a ha => List.mem_cons_of_mem _ ha, o'.new _ hD, fun z => dA1 (hn D z), fun a ha => .inl (hn a ha), pD1, [], upd_same, rk_nil⟩, wipeR_length _ _, by rw [List.drop_zero]; exact hres.symm⟩
    · rintro i m H ⟨rfl, hi, P, ρ, A, acc, st, hlen, hrun⟩
      have kp : okH H := hok P H st.ext.keep st.ok.sub
      have lv : ds.length = vs.length := rv.length
      by_cases hlt : i < ds.length
      · refine .inr ⟨wk.go i H kp (by omega), fun H' => i + 1 ≤ ds.length ∧ ∃ P ρ A acc, DcSt σ t.slots P1 H1 A1 D ρ acc P H' A ∧ ρ.length = ρ1.length ∧ dcL (lcTurn t cond) (ds.drop (i + 1)) acc ρ = .ok accE ρE, fun H' q => ⟨ds.length - (i + 1), by omega, rfl, q.1, q.2⟩, fun x H' y => ?_⟩
        obtain ⟨rfl, hx⟩ := wk.yld i H x H' kp (by omega) y
        obtain ⟨v, hv, rd0⟩ := rv.get (i := i) (d := ds[i]) (by simp [hlt])
        rw [hx] at hv
        cases hv
        have rd := RD.keep st.ext.keep _ _ rd0
        rw [List.drop_eq_getElem_cons hlt] at hrun
        unfold dcL at hrun
        have turn : lcTurn t cond ds[i] ρ = match bindT t (.val ds[i]) ρ with
          | some ρ1 => (match cond ρ1 with
            | .ok x ρ2 => .ok x (wipeR ρ2 t.slots)
            | .exc e ρ2 => .exc e ρ2
            | .bad => .bad)
          | none => .bad := rfl
        rw [turn] at hrun
        cases hb : bindT t (.val ds[i]) ρ with
        | none => rw [hb] at hrun; cases hrun
        | some ρb =>
          rw [hb] at hrun
          dsimp only at hrun
          refine bindT_ok st.ok rd hb (fun j hj => by rw [hlen]; exact hl j hj) fun σ2 A2 o2 s2 hs2 hn2 => ?_
          have ws : wipe σ2 t.slots = wipe σ t.slots := by
            rw [← wipe_idem σ]
            exact wipe_same (by rw [hn2]) hs2
          refine ⟨ws, ?_⟩
          have x2 : ∀ a ∈ A2, a ∈ A := fun a ha => s2.subset ha
          have dA2 : D ∉ A2 := fun z => st.ndD (x2 D z)
          -- the element, from a state behind the test
          have elt : ∀ (P3 H3 : Hp) (A3 : List Addr) (ρ3 : Rho), Ext A2 P H' P3 H3 → Ok P3 H3 σ2 ρ3 A3 → New A2 H' A3 → cond ρb = elt1 (fun ρ => kTup (kTwo eb (ea ρ))) ρ3 →
              (tE noWish ea) σ2 H3 fun y H4 => (tE noWish eb) σ2 H4 fun z H5 => ∃ kvs k, y = kV k ∧ H5 D = some (.dK kvs) ∧ kvs.length < sizeLine ∧ (i + 1 ≤ ds.length ∧ ∃ P ρ A acc', DcSt σ t.slots P1 H1 A1 D ρ acc' P (upd H5 D (.dK (putK kvs k z))) A ∧ ρ.length = ρ1.length ∧ dcL (lcTurn t cond) (ds.drop (i + 1)) acc' ρ = .ok accE ρE) := by
            intro P3 H3 A3 ρ3 x3 o3 n3 hc
            rw [hc] at hrun
            refine ⟨P3, ρ3, A3, o3, ?_⟩
            cases he : ea ρ3 with
            | bad => simp only [elt1, he, kFrz, kTwo, kTup, kSome] at hrun; cases hrun
            | exc _ _ => simp only [elt1, he, kFrz, kTwo, kTup, kSome] at hrun; cases hrun
            | ok z ρ4 =>
              intro P4 H4 A4 B4 v4 x4 o4 r4 d4 n4
              cases hf : frz z ρ4 with
              | none => simp only [elt1, he, kFrz, kTwo, kTup, hf, kSome] at hrun; cases hrun
              | some p =>
                obtain ⟨d5, ρ5⟩ := p
                obtain ⟨P5, A5, x5, o5, r5, n5⟩ := step_frz x4 o4 r4 d4 n4 hf
                refine ⟨P5, ρ5, A5, o5, ?_⟩
                cases he2 : eb ρ5 with
                | bad => simp only [elt1, he, he2, kFrz, kVals1, kVals2, kTwo, kTup, hf, kSome] at hrun; cases hrun
                | exc _ _ => simp only [elt1, he, he2, kFrz, kVals1, kVals2, kTwo, kTup, hf, kSome] at hrun; cases hrun
                | ok z2 ρ6 =>
                  intro P6 H6 A6 B6 v6 x6 o6 r6 d6 n6
                  cases hf2 : frz z2 ρ6 with
                  | none => simp only [elt1, he, he2, kFrz, kVals1, kVals2, kTwo, kTup, hf, hf2, kSome] at hrun; cases hrun
                  | some p2 =>
                    obtain ⟨d7, ρ7⟩ := p2
                    rw [elt_two he hf he2 hf2] at hrun
                    obtain ⟨P7, A7, x7, o7, r7, n7⟩ := step_frz x6 o6 r6 d6 n6 hf2
                    have hrun : (if isKey1 d5 = true ∧ acc.length < sizeLine then dcL (lcTurn t cond) (ds.drop (i + 1)) (dput acc d5 d7) (wipeR ρ7 t.slots) else .bad) = .ok accE ρE := hrun
                    by_cases hz : isKey1 d5 = true ∧ acc.length < sizeLine
                    case neg => rw [if_neg hz] at hrun; cases hrun
                    rw [if_pos hz] at hrun
                    obtain ⟨q, rfl, rfl⟩ := rd_key1 hz.1 r5
                    have x35 := x3.trans x5 n3
                    have n35 := n3.trans n5 x3.there
                    have x37 := x35.trans x7 n35
                    have n37 := n35.trans n7 x35.there
                    have xA : Ext A P H' P7 H6 := x37.mono x2
                    obtain ⟨A8, o8, s8⟩ := o7.wipe t.slots
                    have n8 : New A H' A8 := fun a ha => (n37 a (s8.subset ha)).imp (x2 a) id
                    rw [ws] at o8
                    have st8 := st.go hD xA o8 n8
                    obtain ⟨vs8, e8, r8⟩ := st8.hD
                    refine ⟨vs8, q, rfl, e8, by rw [← r8.length]; exact hz.2, by omega, P7, wipeR ρ7 t.slots, A8, dput acc (keyD q) d7, ⟨?_, o8.upd _ st8.pD st8.ndD (by rw [e8]; simp), st8.ndD, st8.new, st8.pD, _, upd_same, r8.put r7⟩, ?_, hrun⟩
                    · refine st8.ext.trans (ext_upd (A := [D]) _ st8.pD (by simp) (by rw [e8]; simp)) fun a ha => .inl ?_
                      rw [List.mem_singleton.mp ha]; simp
                    · have l1 := o8.len
                      have l2 := o1.len
                      rw [wipe_length] at l1
                      omega
          subst hcond
          cases cnd with
          | none =>
            have q := elt P H' A2 ρb .refl o2 .refl rfl
            simp only [ttC, tYes]
            exact q
          | some g =>
            show tB (tE noWish g) σ2 H' _
            try simp only [condC] at hrun
            refine ⟨P, ρb, A2, o2, ?_⟩
            cases hg : g ρb with
            | bad => simp only [hg, kTst] at hrun; cases hrun
            | exc _ _ => simp only [hg, kTst] at hrun; cases hrun
            | ok z ρ3 =>
              intro P3 H3 A3 B3 v3 x3 o3 r3 d3 n3
              cases hk : look z ρ3 with
              | none => simp only [hg, kTst, hk] at hrun; cases hrun
              | some d3' =>
                have vd := o3.vw r3 hk
                cases d3' with
                | bool b =>
                  have e3 := vw_bool vd
                  subst e3
                  refine ⟨b, rfl, ?_⟩
                  cases b with
                  | true =>
                    rw [if_pos rfl]
                    exact elt P3 H3 A3 ρ3 x3 o3 n3.left (by simp only [condC, hg, kTst, hk, cond_true])
                  | false =>
                    rw [if_neg Bool.false_ne_true]
                    simp only [hg, kTst, hk, none1, cond_false] at hrun
                    have xA : Ext A P H' P3 H3 := x3.mono x2
                    obtain ⟨A6, o6, s6⟩ := o3.wipe t.slots
                    have n6 : New A H' A6 := fun a ha => (n3.left a (s6.subset ha)).imp (x2 a) id
                    rw [ws] at o6
                    refine ⟨by omega, P3, wipeR ρ3 t.slots, A6, acc, st.go hD xA o6 n6, ?_, hrun⟩
                    have l1 := o6.len
                    have l2 := o1.len
                    rw [wipe_length] at l1
                    omega
                | _ => simp only [hg, kTst, hk] at hrun; cases hrun
      · have e : i = ds.length := by omega
        subst e
        rw [List.drop_length] at hrun
        cases hrun
        refine .inl ⟨by rw [lv]; exact wk.stop H kp, ?_⟩
        obtain ⟨vsE, eE, rE⟩ := st.hD
        have bk : ∀ j ∈ t.slots, ∀ z, σ[j]? = some z → SlotOk P H [] (slot ρ1 j) z := fun j hj z hz => by
          have fr := (Bool.and_eq_true_iff.mp (List.all_eq_true.mp free j hj)).2
          cases hsl : slot ρ1 j with
          | none => rfl
          | some o =>
            rw [hsl] at fr
            cases o with
            | val d =>
              obtain ⟨v, B1, B, B2, ev, _, ro, _⟩ := o1.sl.at' hsl
              rw [hz] at ev
              cases ev
              exact ⟨v, rfl, rfl, RD.keep st.ext.keep _ _ ro.2⟩
            | lst _ => cases fr
            | dct _ => cases fr
        obtain ⟨A', o', s'⟩ := Ok.back (ρ0 := ρ1) nd st.ok bk
        refine out P H A' [D] (.ref D) ?_ o' ⟨D, rfl, rfl, st.pD, .inl ⟨vsE, eE, rE⟩⟩ ?_ ?_
        · refine ⟨st.ext.keep, fun a u e ha hp => st.ext.kept a u e (fun q => ?_) hp, fun a q => ?_, st.ext.there⟩
          · rcases List.mem_cons.mp q with z | z
            · subst z; rw [hD] at e; cases e
            · exact ha z
          · rcases st.ext.from_ a q with z | z | z
            · exact .inl z
            · rcases List.mem_cons.mp z with z | z
              · subst z; exact .inr (.inr hD)
              · exact .inr (.inl z)
            · exact .inr (.inr z)
        · refine List.nodup_append.mpr ⟨o'.nd, by simp, fun a ha b hb q => ?_⟩
          rw [List.mem_singleton.mp hb] at q
          subst q
          exact st.ndD (s'.subset ha)
        · intro a ha
          rcases List.mem_append.mp ha with q | q
          · exact st.new a (s'.subset q)
          · rw [List.mem_singleton.mp q]; exact .inr hD
/-! ### sorted -/
abbrev leS (a b : Str) : Prop := PySem.Spec.ltCps b.cps.toList a.cps.toList = false
theorem ltc_trans : ∀ {a b c : List Nat}, PySem.Spec.ltCps b a = false → PySem.Spec.ltCps c b = false → PySem.Spec.ltCps c a = false
  | [], _, [], _, _ => rfl
  | [], _, _ :: _, _, _ => rfl
  | x :: a, [], _, h, _ => by cases h
  | x :: a, y :: b, [], _, h => by cases h
  | x :: a, y :: b, z :: c, h1, h2 => by
    simp only [PySem.Spec.ltCps, Bool.or_eq_false_iff, Bool.and_eq_false_iff, decide_eq_false_iff_not, beq_eq_false_iff_ne] at h1 h2 ⊢
    refine ⟨by omega, ?_⟩
    by_cases e : z = x
    · have e1 : y = x := by omega
      subst e e1
      rcases h1.2 with h | h
      · exact absurd rfl h
      · rcases h2.2 with h' | h'
        · exact absurd rfl h'
        · exact .inr (ltc_trans h h')
    · exact .inl e
theorem ltc_anti : ∀ {a b : List Nat}, PySem.Spec.ltCps b a = false → PySem.Spec.ltCps a b = false → a = b
  | [], [], _, _ => rfl
  | [], _ :: _, _, h => by cases h
  | _ :: _, [], h, _ => by cases h
  | x :: a, y :: b, h1, h2 => by
    simp only [PySem.Spec.ltCps, Bool.or_eq_false_iff, Bool.and_eq_false_iff, decide_eq_false_iff_not, beq_eq_false_iff_ne] at h1 h2
    have e : x = y := by omega
    subst e
    rcases h1.2 with h | h
    · exact absurd rfl h
    · rcases h2.2 with h' | h'
      · exact absurd rfl h'
      · rw [ltc_anti h h']
theorem ltc_total : ∀ {a b : List Nat}, PySem.Spec.ltCps b a = true → PySem.Spec.ltCps a b = false
  | [], [], h => by cases h
  | [], _ :: _, h => by cases h
  | _ :: _, [], _ => rfl
  | x :: a, y :: b, h => by
    simp only [PySem.Spec.ltCps, Bool.or_eq_true, Bool.and_eq_true, decide_eq_true_eq, beq_iff_eq] at h
    simp only [PySem.Spec.ltCps, Bool.or_eq_false_iff, Bool.and_eq_false_iff, decide_eq_false_iff_not, beq_eq_false_iff_ne]
    rcases h with h | ⟨e, h⟩
    · exact ⟨by omega, .inl (by omega)⟩
    · subst e; exact ⟨by omega, .inr (ltc_total h)⟩
theorem insS_perm (x : Str) : ∀ l : List Str, (insS x l).Perm (x :: l)
  | [] => .refl _
  | y :: r => by
    unfold insS
    cases PySem.Spec.ltCps y.cps.toList x.cps.toList with
    | false => exact .refl _
    | true => exact ((insS_perm x r).cons y).trans (.swap ..)
theorem sortS_perm : ∀ l : List Str, (sortS l).Perm l
  | [] => .refl _
  | x :: r => (insS_perm x (sortS r)).trans ((sortS_perm r).cons x)
theorem insS_pw (x : Str) : ∀ {l : List Str}, l.Pairwise leS → (insS x l).Pairwise leS
  | [], _ => by simp [insS]
  | y :: r, h => by
    obtain ⟨h1, h2⟩ := List.pairwise_cons.mp h
    unfold insS
    cases e : PySem.Spec.ltCps y.cps.toList x.cps.toList with
    | false =>
      refine List.pairwise_cons.mpr ⟨fun z hz => ?_, h⟩
      rcases List.mem_cons.mp hz with rfl | hz
      · exact e
      · exact ltc_trans e (h1 z hz)
    | true =>
      refine List.pairwise_cons.mpr ⟨fun z hz => ?_, insS_pw x h2⟩
      rcases List.mem_cons.mp ((insS_perm x r).mem_iff.mp hz) with rfl | hz
      · exact ltc_total e
      · exact h1 z hz
theorem sortS_pw : ∀ l : List Str, (sortS l).Pairwise leS
  | [] => .nil
  | x :: r => insS_pw x (sortS_pw r)
theorem rising_pw : ∀ {l : List Str} {p : Str}, PyProof.Rows.risingS p l = true → (p :: l).Pairwise leS
  | [], p, _ => by simp
  | x :: r, p, h => by
    simp only [PyProof.Rows.risingS, Bool.and_eq_true, Bool.not_eq_true'] at h
    have ih := rising_pw h.2
    refine List.pairwise_cons.mpr ⟨fun z hz => ?_, ih⟩
    rcases List.mem_cons.mp hz with rfl | hz
    · exact h.1
    · exact ltc_trans h.1 ((List.pairwise_cons.mp ih).1 z hz)
theorem sorted_pw {l : List Str} (h : PyProof.Rows.sortedS l = true) : l.Pairwise leS := by
  cases l with
  | nil => exact .nil
  | cons x r => exact rising_pw h
theorem str_ext {a b : Str} (h : a.cps.toList = b.cps.toList) : a = b := by
  cases a with | mk x => cases b with | mk y =>
    have : x = y := by cases x; cases y; simp_all
    rw [this]
theorem sortS_eq {xs ys : List Str} (hp : ys.Perm xs) (hs : PyProof.Rows.sortedS ys = true) : ys = sortS xs :=
  List.Perm.eq_of_pairwise (fun a b _ _ h1 h2 => str_ext (ltc_anti h1 h2)) (sorted_pw hs) (sortS_pw xs) (hp.trans (sortS_perm xs).symm)
theorem insI_perm (x : Int) : ∀ l : List Int, (insI x l).Perm (x :: l)
  | [] => .refl _
  | y :: r => by
    unfold insI
    cases decide (y < x) with
    | false => exact .refl _
    | true => exact ((insI_perm x r).cons y).trans (.swap ..)
theorem sortI_perm : ∀ l : List Int, (sortI l).Perm l
  | [] => .refl _
  | x :: r => (insI_perm x (sortI r)).trans ((sortI_perm r).cons x)
theorem insI_pw (x : Int) : ∀ {l : List Int}, l.Pairwise (· ≤ ·) → (insI x l).Pairwise (· ≤ ·)
  | [], _ => by simp [insI]
  | y :: r, h => by
    obtain ⟨h1, h2⟩ := List.pairwise_cons.mp h
    unfold insI
    by_cases e : y < x
    · rw [decide_eq_true e]
      refine List.pairwise_cons.mpr ⟨fun z hz => ?_, insI_pw x h2⟩
      rcases List.mem_cons.mp ((insI_perm x r).mem_iff.mp hz) with rfl | hz
      · omega
      · exact h1 z hz
    · rw [decide_eq_false e]
      refine List.pairwise_cons.mpr ⟨fun z hz => ?_, h⟩
      rcases List.mem_cons.mp hz with rfl | hz
      · omega
      · have := h1 z hz
        omega
theorem sortI_pw : ∀ l : List Int, (sortI l).Pairwise (· ≤ ·)
  | [] => .nil
  | x :: r => insI_pw x (sortI_pw r)
theorem sortI_eq {xs ys : List Int} (hp : ys.Perm xs) (hs : ys.Pairwise (· ≤ ·)) : ys = sortI xs :=
  List.Perm.eq_of_pairwise (fun a b _ _ h1 h2 => by omega) hs (sortI_pw xs) (hp.trans (sortI_perm xs).symm)
theorem RDs.ints {P : Hp} : ∀ {ds : List D} {vs : List V} {bs : List Int}, RDs P ds vs → intsOf ds = some bs → vs = bs.map V.int
  | [], _, _, r, h => by cases h; rw [r.nil_inv]; rfl
  | d :: ds, vs, bs, r, h => by
    obtain ⟨v, t, rfl, h1, h2⟩ := r.inv
    cases d with
    | int i =>
      obtain ⟨bs', e, rfl⟩ := map_some (show (intsOf ds).map (i :: ·) = some bs from h)
      rw [RD] at h1
      rw [h1, h2.ints e]; rfl
    | _ => cases h
theorem rds_strs {P : Hp} : ∀ l : List Str, RDs P (l.map PyData.str) (l.map V.str)
  | [] => .nil
  | x :: l => .cons rd_str (rds_strs l)
theorem rds_intL {P : Hp} : ∀ l : List Int, RDs P (l.map PyData.int) (l.map V.int)
  | [] => .nil
  | x :: l => .cons rd_int (rds_intL l)
theorem len_strs : ∀ {ds : List D} {xs : List Str}, strsOf ds = some xs → xs.length = ds.length
  | [], _, h => by cases h; rfl
  | d :: ds, _, h => by
    cases d with
    | str s =>
      obtain ⟨r, e, rfl⟩ := map_some (show (strsOf ds).map (s :: ·) = some _ from h)
      rw [List.length_cons, List.length_cons, len_strs e]
    | _ => cases h
theorem len_ints : ∀ {ds : List D} {xs : List Int}, intsOf ds = some xs → xs.length = ds.length
  | [], _, h => by cases h; rfl
  | d :: ds, _, h => by
    cases d with
    | int s =>
      obtain ⟨r, e, rfl⟩ := map_some (show (intsOf ds).map (s :: ·) = some _ from h)
      rw [List.length_cons, List.length_cons, len_ints e]
    | _ => cases h
theorem each_zip {R : Value → D × V → Prop} : ∀ {us : List Value} {vs : List V} {ds : List D}, Vals vs us → ds.length = vs.length → (∀ u v d, RelV v u → (d, v) ∈ ds.zip vs → R u (d, v)) → PySem.W.EachIs R us (ds.zip vs)
  | [], [], [], _, _, _ => .nil
  | u :: us, v :: vs, d :: ds, .cons r rs, hl, k => .cons (k u v d r (by simp)) (each_zip rs (Nat.succ.inj hl) fun u v d r h => k u v d r (by simp [h]))
  | [], [], _ :: _, _, hl, _ => by cases hl
  | _ :: _, _ :: _, [], _, hl, _ => by cases hl
theorem zip_fst : ∀ {ds : List D} {vs : List V}, ds.length = vs.length → (ds.zip vs).map Prod.fst = ds
  | [], [], _ => rfl
  | d :: ds, v :: vs, h => by
    rw [List.zip_cons_cons, List.map_cons, zip_fst (Nat.succ.inj h)]
theorem RDs.mem_zip {P : Hp} : ∀ {ds : List D} {vs : List V}, RDs P ds vs → ∀ p ∈ ds.zip vs, RD P p.1 p.2
  | [], _, _, p, h => by simp at h
  | d :: ds, _, r, p, h => by
    obtain ⟨v, t, rfl, h1, h2⟩ := r.inv
    rw [List.zip_cons_cons] at h
    rcases List.mem_cons.mp h with rfl | h
    · exact h1
    · exact h2.mem_zip p h
theorem each_rds {P : Hp} : ∀ {us : List Value} {bs : List (D × V)}, PySem.W.EachIs (fun u b => RelV b.2 u) us bs → (∀ p ∈ bs, RD P p.1 p.2) → RDs P (bs.map Prod.fst) (bs.map Prod.snd) ∧ Vals (bs.map Prod.snd) us
  | _, _, .nil, _ => ⟨.nil, .nil⟩
  | _, _, .cons r rs, h => by
    obtain ⟨h1, h2⟩ := each_rds rs fun p hp => h p (by simp [hp])
    exact ⟨.cons (h _ (by simp)) h1, .cons r h2⟩
theorem cr_srtG {Wx : Wish} {X : Cx} (hu : X.A.units + 65 < cLine) {pins : List (Addr × Obj)} {s : Shared} {σ0 σ : St} {P H : Hp} {ρ : Rho} {A : List Addr} {ds : List D} {v : V} {u : Value} {Q : VK} (I : Inv X pins σ0 H s) (rv : RelV v u) (ok : Ok P H σ ρ A) (vd : Vw P H (.list ds) v) (out : Out Wx RA σ P H A (rO (srtG ds) ρ) Q) :
    wpAny (model X.prog X.w) X.A (call (.builtin "sorted") [u]) (EP X pins σ0 Q) X.xe s := by
  unfold srtG at out
  split at out
  case isFalse => exact out.elim
  rename_i hs
  unfold srtOk at hs
  simp only [Bool.and_eq_true, decide_eq_true_eq] at hs
  obtain ⟨⟨⟨h1, h2⟩, h3⟩, h4⟩ := hs
  obtain ⟨a, vs, rfl, g1, g2⟩ := vd
  cases (show u = Value.ref a from rv)
  obtain ⟨its, rv, hl, _⟩ := I.list (show SqL X.K H a vs from .inl g1)
  have hlen := g2.length
  have hfst := zip_fst hlen
  have mz := g2.mem_zip
  have memd : ∀ p ∈ ds.zip vs, p.1 ∈ ds := fun p hp => (List.of_mem_zip hp).1
  have al : ∀ d ∈ ds, ∀ e ∈ ds, PySem.W.alike d e = true := fun d hd e he => List.all_eq_true.mp (List.all_eq_true.mp h1 d hd) e he
  have hd : ∀ d ∈ ds, d.canLay0 = true ∧ d.depth ≤ 40 := fun d hd => by
    have z := List.all_eq_true.mp h3 d hd
    rw [Bool.and_eq_true, decide_eq_true_eq] at z
    exact z
  have hlz : (ds.zip vs).length ≤ 100000 := by rw [List.length_zip]; omega
  refine PySem.W.sorted_data (s := s) (vs := its) (bs := ds.zip vs) (enc := Prod.fst) (R := fun u b => RelV b.2 u) hl.isList (each_zip rv hlen fun u v d r _ => r) (each_zip rv hlen fun u v d r hm => ?_) (by rw [hfst]; exact al) ?_ (by rw [sizeLine_eq]; omega) (fun b hb => by have := (hd _ (memd b hb)).2; omega) fun os ho he => ?_
  · exact (RD.dp (K := X.K) ok.sub d v (mz (d, v) hm) (hd d (memd _ hm)).1).reads I d v u r
  · rw [hfst]
    rcases Bool.or_eq_true_iff.mp h2 with h2 | h2
    · refine .inl fun d hd => ?_
      have z := List.all_eq_true.mp h2 d hd
      unfold isTup1 at z
      split at z
      · exact ⟨_, _, rfl⟩
      · cases z
    · refine .inr fun d hd => ?_
      have z := List.all_eq_true.mp h2 d hd
      constructor
      · rintro rfl; cases z
      · rintro xs rfl; cases z
  · have hm : ∀ p ∈ (ds.zip vs).mergeSort (PySem.W.dataLe false Prod.fst), RD P p.1 p.2 := fun p hp => mz p ((List.mergeSort_perm _ _).mem_iff.mp hp)
    obtain ⟨r1, r2⟩ := each_rds he hm
    have ef : ((ds.zip vs).mergeSort (PySem.W.dataLe false Prod.fst)).map Prod.fst = ds.mergeSort (PySem.W.dataLe false id) := by
      have z := List.map_mergeSort (r := PySem.W.dataLe false (Prod.fst : D × V → D)) (s := PySem.W.dataLe false (id : D → D)) (f := Prod.fst) (l := ds.zip vs) fun a _ b _ => rfl
      rw [hfst] at z
      exact z
    rw [ef] at r1
    obtain ⟨ep, he'⟩ := PyProof.Rows.sortedAll_at s.heap its (List.toArray os)
    have hn : H (s.heap.objs.size + 1) = none := I.hok.fresh (Nat.le_succ _)
    have hl2 : (((ds.zip vs).mergeSort (PySem.W.dataLe false Prod.fst)).map Prod.snd).length ≤ sizeLine := by rw [List.length_map, List.length_mergeSort, sizeLine_eq]; omega
    exact ⟨.ref _, upd H (s.heap.objs.size + 1) (.lst (((ds.zip vs).mergeSort (PySem.W.dataLe false Prod.fst)).map Prod.snd)), I.laid (t' := s.toks) (fun _ _ => PyProof.Rows.sortedAll_old) (Nat.le_succ _) ⟨hl2, os, ep, r2, he'⟩, rfl, Out.lst out ok hn r1⟩
theorem cr_srt {Wx : Wish} {X : Cx} (hu : X.A.units + 65 < cLine) : CallR X (.builtin "sorted") (rB1 Wx (fBlt .sorted)) := by
  intro pins s σ0 H xs us Q I rs h
  obtain ⟨x, rfl, P, σ, ρ, A, d, ok, vd, out⟩ := h
  unfold fBlt at out
  cases d with
  | list ds =>
    have out : Out Wx RA σ P H A (rO (srtD ds) ρ) Q := out
    unfold srtD at out
    cases h0 : srt0 ds with
    | none =>
      rw [h0] at out
      cases rs with
      | cons r rs' =>
        cases rs' with
        | nil => exact cr_srtG hu I r ok vd out
    | some o =>
    rw [h0] at out
    obtain ⟨a, vs, rfl, h1, h2⟩ := vd
    have out : Out Wx RA σ P H A (.ok (.vl o) ρ) Q := out
    unfold srt0 at h0
    split at h0
    case isFalse => cases h0
    rename_i hl
    cases hb : strsOf ds with
    | some bs =>
      rw [hb] at h0
      cases h0
      have e := h2.strs hb
      subst e
      refine L2.cr_sortedS pins s σ0 H _ us Q I rs ⟨a, bs, rfl, .inl h1, by rw [len_strs hb]; exact hl, fun ys p hp hs hn => ?_⟩
      rw [sortS_eq hp hs]
      exact Out.lst out ok hn (rds_strs _)
    | none =>
      rw [hb] at h0
      cases hi : intsOf ds with
      | none => rw [hi] at h0; cases h0
      | some bs =>
        rw [hi] at h0
        cases h0
        have e := h2.ints hi
        subst e
        refine L2.cr_sorted pins s σ0 H _ us Q I rs ⟨a, bs, rfl, .inl h1, by rw [len_ints hi]; exact hl, fun ys p hp hs hn => ?_⟩
        rw [sortI_eq hp hs]
        exact Out.lst out ok hn (rds_intL _)
  | _ => exact out.elim
end SW

set_option Elab.async false
set_option linter.all false
set_option maxRecDepth 100000
set_option maxHeartbeats 2000000
/-! displays of dicts, methods, comprehensions; all expressions -/
namespace SW
open PySem PySem.Spec L2
open PyProof.Rows hiding St
section
variable {Wx : Wish} {X : Cx} {c : Cfg} {cx : Ctx} {k n : Nat} {σ : St} {H : Hp} {Q : VK}
/-! ### {k: v, ..} -/
def tZip : List D → List TE → List (TE × TE)
  | d :: ds, t :: ts => (tC (atomV d), t) :: tZip ds ts
  | _, _ => []
theorem pps_lit (S : Snd n) (o : XOk Wx X c cx k) {pos : Pos} : ∀ {keys : List (Option Expr)} {ks : List D} {vs : List Expr}, litKeys keys = some ks → vs.length = keys.length →
    PPs X pos keys vs (tZip ks (vs.map fun v => tE Wx (evE cx (compE n c v))))
  | [], _, [], h, _ => by cases h; exact pps_nil
  | [], _, _ :: _, _, h => by cases h
  | _ :: _, _, [], _, h => by cases h
  | q :: r, ks, v :: vs, h, hl => by
    have hl' : vs.length = r.length := Nat.succ.inj hl
    match q, h with
    | some (.Constant (.int i) a p), h =>
      obtain ⟨ks', e, rfl⟩ := map_some (show (litKeys r).map (PyData.int i :: ·) = some ks from h)
      exact pps_cons pe_int (S Wx X c cx k o v).1 (pps_lit S o e hl')
    | some (.Constant (.str i) a p), h =>
      obtain ⟨ks', e, rfl⟩ := map_some (show (litKeys r).map (PyData.str i :: ·) = some ks from h)
      exact pps_cons pe_str (S Wx X c cx k o v).1 (pps_lit S o e hl')
    | none, h => cases h
    | some e, h =>
      cases e with
      | Constant q a p =>
        cases q with
        | int i =>
          obtain ⟨ks', e, rfl⟩ := map_some (show (litKeys r).map (PyData.int i :: ·) = some ks from h)
          exact pps_cons pe_int (S Wx X c cx k o v).1 (pps_lit S o e hl')
        | str i =>
          obtain ⟨ks', e, rfl⟩ := map_some (show (litKeys r).map (PyData.str i :: ·) = some ks from h)
          exact pps_cons pe_str (S Wx X c cx k o v).1 (pps_lit S o e hl')
        | _ => cases h
      | _ => cases h
theorem lit_all : ∀ {keys : List (Option Expr)} {ks : List D}, litKeys keys = some ks → keys.all (·.isSome) = true ∧ ks.length = keys.length ∧ ∀ d ∈ ks, ∃ q, d = keyD q ∧ atomV d = kV q
  | [], _, h => by cases h; exact ⟨rfl, rfl, fun d hd => nomatch hd⟩
  | q :: r, ks, h => by
    have go : ∀ d e, litKeys r = some e → ks = d :: e → (∃ q, d = keyD q ∧ atomV d = kV q) → q.isSome = true → (q :: r).all (·.isSome) = true ∧ ks.length = (q :: r).length ∧ ∀ d ∈ ks, ∃ q, d = keyD q ∧ atomV d = kV q := by
      intro d e h1 h2 h3 h4
      obtain ⟨a1, a2, a3⟩ := lit_all h1
      subst h2
      refine ⟨by rw [List.all_cons, h4, a1]; rfl, by rw [List.length_cons, List.length_cons, a2], fun x hx => ?_⟩
      rcases List.mem_cons.mp hx with z | z
      · subst z; exact h3
      · exact a3 x z
    cases q with
    | none => cases h
    | some e =>
      cases e with
      | Constant q a p =>
        cases q with
        | int i =>
          obtain ⟨ks', e, rfl⟩ := map_some (show (litKeys r).map (PyData.int i :: ·) = some ks from h)
          exact go _ _ e rfl ⟨.inl i, rfl, rfl⟩ rfl
        | str i =>
          obtain ⟨ks', e, rfl⟩ := map_some (show (litKeys r).map (PyData.str i :: ·) = some ks from h)
          exact go _ _ e rfl ⟨.inr i, rfl, rfl⟩ rfl
        | _ => cases h
      | _ => cases h
theorem im_pairs : ∀ {es : List ME} {ks : List D} {σ : St} {H : Hp} {Q : List (V × V) → Hp → Prop}, es.length = ks.length → tVs Wx (evVs cx es) σ H (fun ys H' => Q ((ks.map atomV).zip ys) H') → tPairs (tZip ks (es.map fun e => tE Wx (evE cx e))) σ H Q
  | [], [], σ, H, Q, _, h => im_nil h
  | [], _ :: _, _, _, _, h, _ => by cases h
  | _ :: _, [], _, _, _, h, _ => by cases h
  | e :: es, d :: ks, σ, H, Q, hl, h => by
    have h' := im_vals (g := evE cx e) (gs := evVs cx es) h
    have key : ∀ H2 y, (tVs Wx (evVs cx es) σ H2 fun xs H3 => Q (((d :: ks).map atomV).zip (y :: xs)) H3) → tPairs (tZip ks (es.map fun e => tE Wx (evE cx e))) σ H2 (fun ps H3 => Q ((atomV d, y) :: ps) H3) := fun H2 y q => im_pairs (Nat.succ.inj hl) q
    obtain ⟨P, ρ, A, ok, out⟩ := h'
    refine ⟨P, ρ, A, ok, ?_⟩
    cases e1 : evE cx e ρ with
    | bad => rw [e1] at out; exact out.elim
    | exc ex ρ1 => rw [e1] at out; exact out
    | ok x ρ1 =>
      rw [e1] at out
      intro P1 H1 A1 B1 v1 x1 o1 r1 d1 n1
      exact key _ _ (out P1 H1 A1 B1 v1 x1 o1 r1 d1 n1)
theorem zip_keys {P : Hp} : ∀ {ks : List D} {ds : List D} {ys : List V}, (∀ d ∈ ks, ∃ q, d = keyD q ∧ atomV d = kV q) → ds.length = ks.length → RDs P ds ys → ∃ kvs : List (Key × V), (ks.map atomV).zip ys = kvs.map (fun kv => (kV kv.1, kv.2)) ∧ RK P (ks.zip ds) kvs ∧ kvs.length = ks.length
  | [], [], ys, _, _, r => by rw [r.nil_inv]; exact ⟨[], rfl, rk_nil, rfl⟩
  | [], _ :: _, _, _, h, _ => by cases h
  | _ :: _, [], _, _, h, _ => by cases h
  | d :: ks, e :: ds, ys, h, hl, r => by
    obtain ⟨v, t, rfl, h1, h2⟩ := r.inv
    obtain ⟨q, rfl, hq⟩ := h d (by simp)
    obtain ⟨kvs, e1, e2, e3⟩ := zip_keys (fun x hx => h x (by simp [hx])) (Nat.succ.inj hl) h2
    refine ⟨(q, v) :: kvs, ?_, rk_mk h1 e2, by rw [List.length_cons, List.length_cons, e3]⟩
    rw [List.map_cons, List.zip_cons_cons, List.map_cons, e1, hq]
theorem im_dct {es : List ME} {ks : List D} (hl : es.length = ks.length) (h15 : ks.length ≤ 15) (hk : ∀ d ∈ ks, ∃ q, d = keyD q ∧ atomV d = kV q) (h : tE Wx (fun ρ => kDct ks (evVs cx es ρ)) σ H Q) : tDisp (tZip ks (es.map fun e => tE Wx (evE cx e))) σ H Q := by
  intro p hp
  refine im_pairs hl ?_
  obtain ⟨P, ρ, A, ok, out⟩ := h
  dsimp only at out
  have o0 := ok.new (.dK []) hp
  refine ⟨P, ρ, A, o0, ?_⟩
  have x0 : Ext A P H P (upd H p (.dK [])) := ext_new _ hp ok.sub
  cases e : evVs cx es ρ with
  | bad => rw [e] at out; exact out.elim
  | exc ex ρ1 =>
    rw [e] at out
    intro P1 H1 A1 x1 o1 n1
    exact out P1 H1 A1 (x0.trans x1 .refl) o1 (New.refl.trans n1 x0.there)
  | ok ds ρ1 =>
    rw [e] at out
    intro P1 H1 A1 B1 ys x1 o1 r1 d1 n1
    obtain ⟨rfl, r1⟩ := r1
    have pA : p ∉ A := ok.fresh hp
    have pP : P p = none := ok.noneP hp
    have e0 : upd H p (.dK []) p = some (.dK []) := upd_same
    have e1 := x1.kept p _ e0 pA pP
    have p1 : P1 p = none := x1.none pP pA (by rw [e0]; simp)
    obtain ⟨kvs, z1, z2, z3⟩ := zip_keys (ks := ks) hk (by rw [evVs_len _ _ _ _ e, hl]) r1
    refine ⟨e1, kvs, z1, by omega, ?_⟩
    simp only [kDct] at out
    cases hd : dputAll [] (ks.zip ds) with
    | none => rw [hd] at out; exact out.elim
    | some res =>
      rw [hd] at out
      have pA1 : p ∉ A1 := fun q => by
        rcases n1.left p q with w | w
        · exact pA w
        · rw [e0] at w; cases w
      have x2 := ext_upd (H := H1) (A := [p]) (.dK (mergeK [] kvs)) p1 (by simp) (by rw [e1]; simp)
      have x02 : Ext (p :: A) P H P1 (upd H1 p (.dK (mergeK [] kvs))) :=
        ((x0.trans x1 .refl).mono (A' := p :: A) fun a ha => List.mem_cons_of_mem _ ha).trans x2 fun a ha => .inl (by rw [List.mem_singleton.mp ha]; simp)
      refine out P1 _ A1 [p] (.ref p) ⟨x02.keep, fun a u e ha hp' => x02.kept a u e (fun q => ?_) hp', fun a q => ?_, x02.there⟩ (o1.upd _ p1 pA1 (by rw [e1]; simp)) ⟨p, rfl, rfl, p1, .inl ⟨_, upd_same, mergeK_ok hd rk_nil z2⟩⟩ ?_ fun a ha => ?_
      · rcases List.mem_cons.mp q with w | w
        · subst w; rw [hp] at e; cases e
        · exact ha w
      · rcases x02.from_ a q with w | w | w
        · exact .inl w
        · rcases List.mem_cons.mp w with w | w
          · subst w; exact .inr (.inr hp)
          · exact .inr (.inl w)
        · exact .inr (.inr w)
      · refine List.nodup_append.mpr ⟨o1.nd, by simp, fun a ha b hb q => ?_⟩
        rw [List.mem_singleton.mp hb] at q
        subst q
        exact pA1 ha
      · rcases List.mem_append.mp ha with w | w
        · have nn : New A H A1 := fun b hb => by
            rcases n1.left b hb with z | z
            · exact .inl z
            · refine .inr ?_
              cases eb : H b with
              | none => rfl
              | some u => exact absurd z (x0.there b (by rw [eb]; simp))
          exact nn a w
        · rw [List.mem_singleton.mp w]; exact .inr hp
theorem pe_dctD (S : Snd n) (o : XOk Wx X c cx k) {keys : List (Option Expr)} {ks : List D} {vs : List Expr} {p : Pos} (h : litKeys keys = some ks) (hl : vs.length = keys.length) (h15 : keys.length ≤ 15) : PE X (.Dict keys vs p) (tE Wx (evE cx (.dctE ks (vs.map (compE n c))))) := by
  obtain ⟨a1, a2, a3⟩ := lit_all h
  cases keys with
  | nil =>
    cases h
    cases vs with
    | cons _ _ => cases hl
    | nil =>
      refine imp_PE pe_dnewK fun σ H Q h => ?_
      obtain ⟨P, ρ, A, ok, out⟩ := h
      have out : Out Wx RA σ P H A (.ok (.vl (.dct [])) ρ) Q := out
      exact fun p hp => out.dK ok hp rk_nil
  | cons q r =>
    have hh := pps_lit (Wx := Wx) S o (pos := p) h hl
    refine imp_PE (pe_disp hh a1 hl.symm (by simp) h15) fun σ H Q h => ?_
    have := im_dct (Wx := Wx) (cx := cx) (es := vs.map (compE n c)) (ks := ks) (by rw [List.length_map, hl, a2]) (by omega) a3 h
    rw [List.map_map] at this
    exact this
/-- {k: v} -/
theorem tG_mono {α β : Type} {Wx : Wish} {L : Rel α β} {g : Rho → R α} {Q Q' : β → Hp → Prop} (h : tG Wx L g σ H Q) (m : ∀ v H', Q v H' → Q' v H') : tG Wx L g σ H Q' := by
  obtain ⟨P, ρ, A, ok, out⟩ := h
  refine ⟨P, ρ, A, ok, ?_⟩
  cases e : g ρ with
  | bad => rw [e] at out; exact out.elim
  | exc ex ρ1 => rw [e] at out; exact out
  | ok x ρ1 =>
    rw [e] at out
    intro P1 H1 A1 B1 v1 x1 o1 r1 d1 n1
    exact m _ _ (out P1 H1 A1 B1 v1 x1 o1 r1 d1 n1)
theorem im_dct1 {ma mb : ME} (h : tE Wx (evE cx (.dct1 ma mb)) σ H Q) : tDisp [(tE Wx (evE cx ma), tE Wx (evE cx mb))] σ H Q := by
  intro p hp
  have h' : tVs Wx (evVs cx [ma, mb]) σ (upd H p (.dK [])) (fun ys H2 => ∃ x y, ys = [x, y] ∧ H2 p = some (.dK []) ∧ ∃ kvs : List (Key × V), [(x, y)] = kvs.map (fun kv => (kV kv.1, kv.2)) ∧ kvs.length ≤ 15 ∧ Q (.ref p) (upd H2 p (.dK (mergeK [] kvs)))) := by
    obtain ⟨P, ρ, A, ok, out⟩ := h
    have out : Out Wx RA σ P H A (kDct1 (evVs cx [ma, mb] ρ)) Q := out
    have o0 := ok.new (.dK []) hp
    refine ⟨P, ρ, A, o0, ?_⟩
    have x0 : Ext A P H P (upd H p (.dK [])) := ext_new _ hp ok.sub
    cases e : evVs cx [ma, mb] ρ with
    | bad => rw [e] at out; exact out.elim
    | exc ex ρ1 =>
      rw [e] at out
      intro P1 H1 A1 x1 o1 n1
      exact out P1 H1 A1 (x0.trans x1 .refl) o1 (New.refl.trans n1 x0.there)
    | ok ds ρ1 =>
      rw [e] at out
      intro P1 H1 A1 B1 ys x1 o1 r1 d1 n1
      obtain ⟨rfl, r1⟩ := r1
      have pA : p ∉ A := ok.fresh hp
      have pP : P p = none := ok.noneP hp
      have e0 : upd H p (.dK []) p = some (.dK []) := upd_same
      have e1 := x1.kept p _ e0 pA pP
      have p1 : P1 p = none := x1.none pP pA (by rw [e0]; simp)
      have hl := evVs_len _ _ _ _ e
      match ds, hl, out, r1 with
      | [k, d], _, out, r1 =>
      have out : Out Wx RA σ P H A (if isKey1 k = true then .ok (.vl (.dct [(k, d)])) ρ1 else .bad) Q := out
      by_cases hk : isKey1 k = true
      case neg => rw [if_neg hk] at out; exact out.elim
      rw [if_pos hk] at out
      obtain ⟨w1, w2, rfl, h7, h8⟩ := two_inv r1
      obtain ⟨q, rfl, rfl⟩ := rd_key1 hk h7
      refine ⟨_, _, rfl, e1, [(q, w2)], rfl, by simp, ?_⟩
      have pA1 : p ∉ A1 := fun q => by
        rcases n1.left p q with w | w
        · exact pA w
        · rw [e0] at w; cases w
      have x2 := ext_upd (H := H1) (A := [p]) (.dK (mergeK [] [(q, w2)])) p1 (by simp) (by rw [e1]; simp)
      have x02 : Ext (p :: A) P H P1 (upd H1 p (.dK (mergeK [] [(q, w2)]))) :=
        ((x0.trans x1 .refl).mono (A' := p :: A) fun a ha => List.mem_cons_of_mem _ ha).trans x2 fun a ha => .inl (by rw [List.mem_singleton.mp ha]; simp)
      refine out P1 _ A1 [p] (.ref p) ⟨x02.keep, fun a u e ha hp' => x02.kept a u e (fun q => ?_) hp', fun a q => ?_, x02.there⟩ (o1.upd _ p1 pA1 (by rw [e1]; simp)) ⟨p, rfl, rfl, p1, .inl ⟨_, upd_same, rk_mk h8 rk_nil⟩⟩ ?_ fun a ha => ?_
      · rcases List.mem_cons.mp q with w | w
        · subst w; rw [hp] at e; cases e
        · exact ha w
      · rcases x02.from_ a q with w | w | w
        · exact .inl w
        · rcases List.mem_cons.mp w with w | w
          · subst w; exact .inr (.inr hp)
          · exact .inr (.inl w)
        · exact .inr (.inr w)
      · refine List.nodup_append.mpr ⟨o1.nd, by simp, fun a ha b hb q => ?_⟩
        rw [List.mem_singleton.mp hb] at q
        subst q
        exact pA1 ha
      · rcases List.mem_append.mp ha with w | w
        · have nn : New A H A1 := fun b hb => by
            rcases n1.left b hb with z | z
            · exact .inl z
            · refine .inr ?_
              cases eb : H b with
              | none => rfl
              | some u => exact absurd z (x0.there b (by rw [eb]; simp))
          exact nn a w
        · rw [List.mem_singleton.mp w]; exact .inr hp
  refine tG_mono (im_vals (g := evE cx ma) (gs := evVs cx [mb]) h') fun x H1 h1 => ?_
  refine tG_mono (im_vals (g := evE cx mb) (gs := evVs cx []) h1) fun y H2 h2 => ?_
  obtain ⟨x', y', e, r⟩ := im_nil h2
  cases e
  exact r
theorem pe_dct1D (S : Snd n) (o : XOk Wx X c cx k) {a b : Expr} {p : Pos} : PE X (.Dict [some a] [b] p) (tE Wx (evE cx (.dct1 (compE n c a) (compE n c b)))) :=
  imp_PE (pe_disp (pps_cons (S Wx X c cx k o a).1 (S Wx X c cx k o b).1 pps_nil) rfl rfl (by simp) (by simp)) fun σ H Q h => im_dct1 h
/-! ### methods -/
theorem pe_methD (S : Snd n) (o : XOk Wx X c cx k) {ob : Expr} {m : Str} {args : List Expr} {apos pos : Pos} (hb : plainBase ob = true) (hs : noStar args = true) (hl : args.length ≤ 3) (hline : (apos.endLine == pos.line) = true) :
    PE X (.Call (.Attribute ob m apos) args [] pos) (tE Wx (evE cx (cMeth m (nameVar c ob) (compE n c ob) (args.map (compE n c))))) := by
  have nil' : args = [] → ∀ σ H Q, (tVs Wx (evVs cx (args.map (compE n c)))) σ H Q → Q [] H := by
    intro e σ H Q h
    subst e
    exact im_nil h
  have mth : ∀ u, mthOf m (args.map (compE n c)).length = some u → PE X (.Call (.Attribute ob m apos) args [] pos) (tE Wx (evE cx (.mth u (compE n c ob) (args.map (compE n c))))) := by
    intro u hu
    have hm : ∃ l, (m, l, u) ∈ mthNames := by
      unfold mthOf at hu
      obtain ⟨p, h1, h2⟩ := map_some hu
      have h3 := List.find?_some h1
      have h4 := List.mem_of_find?_eq_some h1
      rw [Bool.and_eq_true, decide_eq_true_eq] at h3
      obtain ⟨p1, p2, p3⟩ := p
      dsimp only at h2 h3
      subst h2
      rw [h3.1] at h4
      exact ⟨p2, h4⟩
    have fin : ∀ (pa : PlainAttrs (mthTy u)) (slot : Slot (mthTy u) m (mthId u)) (ty : typeOf (.builtin (mthId u)) = pure (.type "method_descriptor")), PE X (.Call (.Attribute ob m apos) args [] pos) (tE Wx (evE cx (.mth u (compE n c ob) (args.map (compE n c))))) := fun pa slot ty =>
      imp_PE (pe_mth pa slot ty (mt_D (Wx := Wx) o.hu u) (S Wx X c cx k o ob).1 (pa_vals S o hs) hb hs hl nil' hline) fun σ H Q h => im_mth h
    obtain ⟨l, hm⟩ := hm
    simp only [mthNames, List.mem_cons, Prod.mk.injEq, List.not_mem_nil, or_false] at hm
    rcases hm with ⟨rfl, _, rfl⟩ | ⟨rfl, _, rfl⟩ | ⟨rfl, _, rfl⟩ | ⟨rfl, _, rfl⟩
    · exact fin PySem.F.plainAttrs_dict PySem.F.slot_dict_get PySem.F.type_dict_get
    · exact fin PySem.F.plainAttrs_dict PySem.F.slot_dict_get PySem.F.type_dict_get
    · exact fin F.plainAttrs_str F.slot_str_join F.type_str_join
    · exact fin F.plainAttrs_str F.slot_str_upper F.type_str_upper
  have other : PE X (.Call (.Attribute ob m apos) args [] pos) (tE Wx (evE cx (match mthOf m (args.map (compE n c)).length with
      | some u => .mth u (compE n c ob) (args.map (compE n c))
      | none => .bad))) := by
    split
    · rename_i u hu; exact mth u hu
    · exact pe_bad
  unfold cMeth
  split
  · rename_i u i hu ho
    have hm : ∃ l, (m, l, u) ∈ mutNames := by
      unfold mutOf at hu
      obtain ⟨p, h1, h2⟩ := map_some hu
      have h3 := List.find?_some h1
      have h4 := List.mem_of_find?_eq_some h1
      rw [Bool.and_eq_true, decide_eq_true_eq] at h3
      obtain ⟨p1, p2, p3⟩ := p
      dsimp only at h2 h3
      subst h2
      rw [h3.1] at h4
      exact ⟨p2, h4⟩
    have ov : PE X ob (tVar i) := by
      cases ob with
      | Name x p => exact pe_varD o ho
      | _ => cases ho
    have fin : ∀ (slot : Slot "list" m (mutId u)) (ty : typeOf (.builtin (mutId u)) = pure (.type "method_descriptor")), PE X (.Call (.Attribute ob m apos) args [] pos) (tE Wx (evE cx (.mut u i (args.map (compE n c))))) := fun slot ty =>
      imp_PE (pe_mth PySem.F.plainAttrs_list slot ty (mt_mut (Wx := Wx) u) ov (pa_vals S o hs) hb hs hl nil' hline) fun σ H Q h => im_mut h
    obtain ⟨l, hm⟩ := hm
    simp only [mutNames, List.mem_cons, Prod.mk.injEq, List.not_mem_nil, or_false] at hm
    rcases hm with ⟨rfl, _, rfl⟩ | ⟨rfl, _, rfl⟩ | ⟨rfl, _, rfl⟩
    · exact fin PySem.F.slot_list_append PySem.F.type_list_append
    · exact fin PySem.F.slot_list_pop PySem.F.type_list_pop
    · exact fin PySem.F.slot_list_pop PySem.F.type_list_pop
  · exact other
end
end SW

set_option Elab.async false
set_option linter.all false
set_option maxRecDepth 100000
set_option maxHeartbeats 4000000
/-! sets of texts: made of a list, sorted -/
namespace SW
namespace TS
open PySem PySem.Spec PyProof.Rows L2
/-- an entry's text -/
def txt (e : Int × Value) : Str := match e.2 with
  | .str k _ => k
  | _ => Str.empty
def Good (w : World) (e : Int × Value) : Prop := ∃ k tk, e.2 = Value.str k tk ∧ e.1 = hashStr w k
/-- a set of texts at a that may be walked: its members, their number -/
structure At (w : World) (h : Heap) (a : Addr) (S : Str → Bool) (n : Nat) : Prop where
  ex : ∃ o es ep t, h.get? a = some o ∧ o.ExactSet ∧ o.data = .set es ep t ∧ (∀ e ∈ es.toList, Good w e) ∧ (es.toList.map txt).Nodup ∧ (∀ k, S k = true ↔ k ∈ es.toList.map txt) ∧
    es.size < scanBound ∧ t.fits es.size = true ∧ es.size = n ∧ Ris t.place.toList ∧ (w.params.followText "set-order" = true ∨ t.led = true)
section
variable {P : Program} {w : World} {A : Around} {E : Value → Shared → Prop} {s : Shared} {h h' : Heap} {a : Addr} {S : Str → Bool} {n : Nat}
theorem At.keep (R : At w h a S n) (k : ∀ o, h.get? a = some o → h'.get? a = some o) : At w h' a S n := by
  obtain ⟨o, es, ep, t, ho, r⟩ := R.ex
  exact ⟨⟨o, es, ep, t, k o ho, r⟩⟩
theorem At.congr {S' : Str → Bool} (R : At w h a S n) (e : ∀ k, S' k = S k) : At w h a S' n := by
  have : S' = S := funext e
  rw [this]
  exact R
theorem elems {l : List (Int × Value)} (g : ∀ e ∈ l, Good w e) : ElemsOf (PySem.strKind P w) l := fun e he => by
  obtain ⟨k, tk, h1, h2⟩ := g e he
  refine ⟨⟨k, by rw [h1]; exact strKind_is P w k tk, h2⟩, by rw [h1]; rfl⟩
theorem is_txt {e : Int × Value} (g : Good w e) (k : Str) : (PySem.strKind P w).is k e.2 = true ↔ txt e = k := by
  obtain ⟨k', tk, h1, _⟩ := g
  have ht : txt e = k' := by unfold txt; rw [h1]
  rw [h1, ht]
  constructor
  · intro q
    have q2 : Value.isStrOf k (.str k' tk) = true := q
    exact Value.isStrOf_inj (.str k' tk) _ _ (strKind_is P w k' tk) q2
  · rintro rfl
    exact strKind_is P w _ tk
theorem mem_txt {l : List (Int × Value)} (g : ∀ e ∈ l, Good w e) (k : Str) : k ∈ l.map txt ↔ ∃ e ∈ l, (PySem.strKind P w).is k e.2 = true := by
  rw [List.mem_map]
  constructor
  · rintro ⟨e, he, q⟩
    exact ⟨e, he, (is_txt (g e he) k).mpr q⟩
  · rintro ⟨e, he, q⟩
    exact ⟨e, he, (is_txt (g e he) k).mp q⟩
/-- behind the entry is laid: the table is stored, grown if it is too full -/
theorem lay_tail {g : Bool → Sem Unit} (hg : ∀ (b : Bool) (s₁ : Shared) (Q' : Unit → Shared → Prop), Q' () s₁ → wpAny (model P w) A (g b) Q' E s₁)
    {o : Obj} {es : Array (Int × Value)} {ep : Nat} {t : SetTable} (ho : s.heap.get? a = some o) (hex : o.ExactSet) (hd : o.data = .set es ep t)
    {es1 : Array (Int × Value)} {t2 : SetTable} {S' : Str → Bool} (g1 : ∀ e ∈ es1.toList, Good w e) (nd1 : (es1.toList.map txt).Nodup) (m1 : ∀ k, S' k = true ↔ k ∈ es1.toList.map txt)
    (hb1 : es1.size < scanBound) (hf2 : t2.fits es1.size = true) (hr : Ris t2.place.toList) (hl : w.params.followText "set-order" = true ∨ t2.led = true) {wd : Bool} {R : Option Bool → Shared → Prop}
    (hR : ∀ h', Heap.SameBut a s.heap h' → At w h' a S' es1.size → R (some true) { s with heap := h' }) :
    wpAny (model P w) A (do
        storeSet a es1 t2
        if (!wd && t2.tooFull) = true then do
            g (relayAll t2 es1 (SetTable.grown es1.size)).2.2
            storeSet a (relayAll t2 es1 (SetTable.grown es1.size)).1 (relayAll t2 es1 (SetTable.grown es1.size)).2.1
            pure (some true)
          else pure (some true)) R E s := by
  have ho1 := store_at (es' := es1) (t' := t2) ho hd
  have sb1 := Heap.SameBut.update s.heap a (Obj.putSet es1 t2)
  refine wpAny_bind (wpAny_storeSet_of ho hd ?_ (fits_of_scanBound hb1))
  split
  case isFalse => exact wpAny_pure (hR _ sb1 ⟨_, es1, _, t2, ho1, hex, rfl, g1, nd1, m1, hb1, hf2, rfl, hr, hl⟩)
  have pm := relayAll_perm t2 es1 (SetTable.grown es1.size)
  have hf3 := relayAll_fits t2 es1 (SetTable.grown es1.size)
  have hr3 := relayAll_ris t2 es1 (SetTable.grown es1.size)
  have hl3 := relayAll_led t2 es1 (SetTable.grown es1.size)
  generalize relayAll t2 es1 (SetTable.grown es1.size) = Z at pm hf3 hr3 hl3 ⊢
  obtain ⟨es2, t3, gave⟩ := Z
  dsimp only at pm hf3 hr3 hl3 ⊢
  have hsz : es2.size = es1.size := by rw [← Array.length_toList, pm.length_eq, Array.length_toList]
  have hb2 : es2.size < scanBound := by rw [hsz]; exact hb1
  refine wpAny_bind (hg _ _ _ (wpAny_bind (wpAny_storeSet_of ho1 rfl ?_ (fits_of_scanBound hb2))))
  have ho2 := store_at (es' := es2) (t' := t3) ho1 rfl
  exact wpAny_pure (hR _ (sb1.trans (Heap.SameBut.update _ a _)) ⟨_, es2, _, t3, ho2, hex, rfl, fun e he => g1 e (pm.mem_iff.mp he), (pm.map txt).nodup_iff.mpr nd1, fun k => (m1 k).trans (pm.map txt).mem_iff.symm, hb2, hf3, hsz, hr3,
    hl.imp id fun z => by rw [hl3]; exact z⟩)
theorem add {k : Str} {tk : Tok} {Q : Bool → Shared → Prop} (R : At w s.heap a S n) (room : n + 1 < scanBound)
    (hQ : ∀ h', Heap.SameBut a s.heap h' → At w h' a (fun j => S j || decide (j = k)) (if S k = true then n else n + 1) → Q (!S k) { s with heap := h' }) :
    wpAny (model P w) A (setAddHashed a (.str k tk) ((PySem.strKind P w).hash k)) Q E s := by
  obtain ⟨o, es, ep, t, ho, hex, hd, g, nd, hm, hb, hf, hn, hr, hl⟩ := R.ex
  have hkey : (PySem.strKind P w).is k (.str k tk) = true := strKind_is P w k tk
  have hsc : (Value.str k tk).scannable = true := rfl
  have hel : ElemsOf (PySem.strKind P w) es.toList := elems g
  unfold setAddHashed setAddHashedIn
  refine wpAny_holding (wpAny_bind (wpAny_setState_of ho hd hf ?_))
  dsimp only
  rw [byScan_of hsc hb hel]
  simp only [↓reduceIte]
  unfold setAddByScan
  refine wpAny_bind (wpAny_bind (wpAny_rule (wpAny_bind (wpAny_setScan_of hkey ho hd hf hel ?_))))
  cases hfi : List.findIdx? (fun e => (PySem.strKind P w).is k e.2) es.toList with
  | some j =>
    dsimp only
    obtain ⟨hj, pj, _⟩ := List.findIdx?_eq_some_iff_getElem.mp hfi
    have hSk : S k = true := (hm k).2 ((mem_txt (P := P) g k).2 ⟨es.toList[j], List.getElem_mem hj, pj⟩)
    refine wpAny_pure (wpAny_pure ?_)
    have q := hQ s.heap (Heap.SameBut.refl a s.heap) ⟨o, es, ep, t, ho, hex, hd, g, nd, fun i => by
      rw [Bool.or_eq_true, decide_eq_true_eq, ← hm i]
      exact ⟨fun z => z.elim id (fun e => e ▸ hSk), .inl⟩, hb, hf, by rw [if_pos hSk]; exact hn, hr, hl⟩
    rw [hSk] at q
    exact q
  | none =>
    dsimp only
    have hnk : k ∉ es.toList.map txt := fun z => by
      obtain ⟨e, he, q⟩ := (mem_txt (P := P) g k).1 z
      have c := List.findIdx?_eq_none_iff.mp hfi e he
      rw [q] at c
      cases c
    have hSk : S k = false := by
      cases q : S k with
      | false => rfl
      | true => exact absurd ((hm k).1 q) hnk
    have hgw : ∀ (b : Bool) {s₁ : Shared} {Q' : Unit → Shared → Prop}, Q' () s₁ → wpAny (model P w) A (match b with | true => rule "set.scan.the-table-gave-way" | false => pure ()) Q' E s₁ :=
      fun b s₁ Q' q => by cases b <;> first | exact wpAny_pure q | exact wpAny_rule q
    have pm := layNew_perm t es ((PySem.strKind P w).hash k) (.str k tk)
    have hf1 := layNew_fits t es ((PySem.strKind P w).hash k) (.str k tk)
    have hr1 := layNew_ris t es ((PySem.strKind P w).hash k) (.str k tk) hr
    have hl1 := layNew_led t es ((PySem.strKind P w).hash k) (.str k tk)
    generalize layNew t es ((PySem.strKind P w).hash k) (.str k tk) = Z at pm hf1 hr1 hl1 ⊢
    obtain ⟨es1, t1, wd, gave⟩ := Z
    dsimp only at pm hf1 hr1 hl1 ⊢
    rw [Array.toList_push] at pm
    have pc : es1.toList.Perm (((PySem.strKind P w).hash k, Value.str k tk) :: es.toList) := pm.trans (List.perm_append_singleton _ _)
    have pk : (es1.toList.map txt).Perm (k :: es.toList.map txt) := pc.map txt
    have g1 : ∀ e ∈ es1.toList, Good w e := fun e he => by
      rcases List.mem_cons.mp (pc.mem_iff.mp he) with z | z
      · rw [z]; exact ⟨k, tk, rfl, rfl⟩
      · exact g e z
    have nd1 : (es1.toList.map txt).Nodup := pk.nodup_iff.mpr (List.nodup_cons.mpr ⟨hnk, nd⟩)
    have m1 : ∀ i, (S i || decide (i = k)) = true ↔ i ∈ es1.toList.map txt := fun i => by
      rw [Bool.or_eq_true, decide_eq_true_eq, hm i, pk.mem_iff, List.mem_cons]
      exact Or.comm
    have hsz : es1.size = n + 1 := by rw [← Array.length_toList, pc.length_eq, List.length_cons, Array.length_toList, hn]
    have hb1 : es1.size < scanBound := by rw [hsz]; exact room
    have hled : w.params.followText "set-order" = true ∨ t1.led = true := hl.imp id fun z => by rw [hl1]; exact z
    have fin : ∀ h', Heap.SameBut a s.heap h' → At w h' a (fun j => S j || decide (j = k)) es1.size → Q true { s with heap := h' } := fun h' sb r => by
      have q := hQ h' sb
      rw [hSk] at q
      rw [hsz] at r
      exact q r
    refine wpAny_bind (hgw _ ?_)
    split
    · refine wpAny_bind ?_
      rw [hashByValue_scannable 8 hsc]
      refine wpAny_pure ?_
      refine lay_tail ?_ ho hex hd g1 nd1 m1 hb1 ?_ ?_ ?_ ?_
      · intro b s₁ Q' q; cases b <;> first | exact wpAny_pure q | exact wpAny_rule q
      · first | (split <;> first | exact hf1 | exact SetTable.fits_plain_off hf1) | exact hf1
      · first | (split <;> exact hr1) | exact hr1
      · first | (split <;> exact hled) | exact hled
      · intro h' sb r; dsimp only; exact wpAny_pure (fin h' sb r)
    · refine wpAny_bind (wpAny_pure ?_)
      simp only [↓reduceIte]
      refine lay_tail ?_ ho hex hd g1 nd1 m1 hb1 hf1 hr1 hled ?_
      · intro b s₁ Q' q; cases b <;> first | exact wpAny_pure q | exact wpAny_rule q
      · intro h' sb r; dsimp only; exact wpAny_pure (fin h' sb r)
theorem fresh_at {h : Heap} (ho : h.get? a = some { cls := .type "set", dict := none, data := .set #[] 0 (.fresh 0 0 (!w.params.followText "set-order")) }) : At w h a (fun j => decide (j ∈ ([] : List Str))) 0 :=
  ⟨⟨_, #[], 0, _, ho, ⟨rfl, rfl, rfl⟩, rfl, (fun e he => by simp at he), (by simp), (fun k => by simp), (by decide), (by rfl), rfl, List.Pairwise.nil, by
    cases w.params.followText "set-order"
    · exact .inr rfl
    · exact .inl rfl⟩⟩
theorem take_next {xs : List Str} {i : Nat} {z : Str} (h : xs[i]? = some z) : ∀ k, decide (k ∈ xs.take (i + 1)) = (decide (k ∈ xs.take i) || decide (k = z)) := fun k => by
  rw [List.take_add_one, h]
  simp [List.mem_append]
/-- the loop that puts the items in -/
theorem fill {I : Addr} {fp wr : List Addr} {G : Array GenState → Array GenState → Prop} {n : Nat} {Pv : Nat → Value → Prop} {St : Nat → Shared → Prop} {R : Result → Shared → Prop}
    (W : WalksS P w A.in1 I fp wr G n Pv St) (S : Addr) (hSf : S ∉ fp) (xs : List Str) (hn : n = xs.length) (hb : xs.length + 1 < scanBound) (hval : ∀ i v, Pv i v → ∃ k t, xs[i]? = some k ∧ v = .str k t) :
    ∀ (k i : Nat) (s : Shared), n - i = k → i ≤ n → St i s → (∃ c, c ≤ i ∧ At w s.heap S (fun j => decide (j ∈ xs.take i)) c) →
      (∀ s' c, Moved (S :: wr) G s s' → c ≤ n → At w s'.heap S (fun j => decide (j ∈ xs)) c → R (.ok (.ret .none)) s') →
      codeAny (model P w) A (.builtin "set.update.loop" ⟨[.ref S, .ref I], []⟩) R s := by
  have hSw : S ∉ wr := fun h => hSf (W.sub _ h)
  have hsub : ∀ b ∈ wr, b ∈ S :: wr := fun b hb => List.mem_cons_of_mem _ hb
  intro k
  induction k with
  | zero =>
    intro i s hk' hi hst ⟨c, hc, hS⟩ hR
    have hin : i = n := by omega
    subst hin
    rw [List.take_of_length_le (by omega)] at hS
    refine codeAny_builtin F.entry_set_update_loop ?_
    rw [Around.under_plainId F.plain_set_update_loop _]
    exact wpAny_bind (W.done s _ _ hst fun s' hm => wpAny_pure (hR s' c (hm.mono hsub) hc (hS.keep fun o e => hm.heap S o hSw e)))
  | succ k ih =>
    intro i s hk' hi hst ⟨c, hc, hS⟩ hR
    have hlt : i < n := by omega
    refine codeAny_builtin F.entry_set_update_loop ?_
    rw [Around.under_plainId F.plain_set_update_loop _]
    refine wpAny_bind (W.item i s _ _ hlt hst fun v s' hP hst' hm => ?_)
    obtain ⟨z, t, hz, rfl⟩ := hval i v hP
    have hS' : At w s'.heap S (fun j => decide (j ∈ xs.take i)) c := hS.keep fun o e => hm.heap S o hSw e
    show wpAny _ A.in1 (holding [Value.str z t] (setAdd S (.str z t)) >>= _) _ _ s'
    refine wpAny_bind (wpAny_holding ?_)
    unfold setAdd
    refine wpAny_holding (wpAny_bind ((PySem.strKind P w).pyHash (k := z) (strKind_is _ _ _ _) ?_))
    refine add (s := { s' with toks := s'.toks + 1 }) hS' (by omega) fun h' hsb hS2 => ?_
    have hS3 : At w h' S (fun j => decide (j ∈ xs.take (i + 1))) (if decide (z ∈ xs.take i) = true then c else c + 1) := hS2.congr (take_next hz)
    have hc3 : (if decide (z ∈ xs.take i) = true then c else c + 1) ≤ i + 1 := by
      split <;> omega
    refine wpAny_pure ⟨plainId_quiet F.plain_set_update_loop _, ih (i + 1) _ (by omega) hlt (W.frame _ s' _ _ hst' (Nat.le_succ _) fun b hb o e => ?_) ⟨_, hc3, hS3⟩ fun s'' c2 hm'' hc'' hS'' => ?_⟩
    · rw [hsb.2 b (fun h : b = S => hSf (by rw [← h]; exact hb))]; exact e
    · refine hR s'' c2 (Moved.trans W.gtrans ((hm.mono hsub).then_heap (Nat.le_succ _) fun b o hb e => ?_) hm'') hc'' hS''
      rw [hsb.2 b (fun h : b = S => hb (by rw [h]; exact List.mem_cons_self))]; exact e
end
section
variable {P : Program} {w : World} {A : Around} {E : Value → Shared → Prop} {s : Shared}
abbrev newS (w : World) : Obj := { cls := .type "set", dict := none, data := .set #[] 0 (.fresh 0 0 (!w.params.followText "set-order")) }
/-- set(xs), xs a list of texts -/
theorem call_set {l : Addr} {items : Array Value} (xs : List Str) {Q : Value → Shared → Prop} (hh : A.handled = none) (hl : s.heap.IsList l items) (hit : PyProof.Rows.StrsAre items.toList xs) (hb : xs.length + 1 < scanBound)
    (h : ∀ (h' : Heap) (tk c : Nat), At w h' s.heap.objs.size (fun j => decide (j ∈ xs)) c → c ≤ xs.length → (∀ b o, s.heap.get? b = some o → h'.get? b = some o) → Q (.ref s.heap.objs.size) { s with heap := h', toks := tk }) :
    wpAny (model P w) A (call (.type "set") [.ref l]) Q E s := by
  have hisz : items.size = xs.length := by rw [← PyProof.Rows.StrsAre.len_eq hit, Array.length_toList]
  obtain ⟨c, tl, hmro⟩ := F.called_set.mro
  have hmade := F.called_set.made
  have hsub := F.called_set.sub
  refine wpAny_call (codeAny_of_tree ?_)
  show wpAny _ _ (callAny (.type "set") _) _ _ _
  refine wpAny_pure ⟨Code.quiet_builtin _ (by decide +kernel), codeAny_builtin F.entry_type_call ?_⟩
  rw [Around.under_plain (weight_type_call_type "set" [.ref l] []) rfl]
  have h1 := F.called_set.notType
  have h2 := F.called_set.canCreate
  have hct := F.typeCall_set_1 (.ref l)
  repeat (any_goals (first | assumption | wp_step))
  refine codeAny_mono (code_set_led1 (.ref l) (E := E) (Q₁ := fun obj s₁ => obj = .ref s.heap.objs.size ∧ s₁ = { s with heap := s.heap.push (newS w) }) ⟨rfl, rfl⟩) fun r s₁ hr => ?_
  cases r with
  | error e => exact hr
  | ok fl =>
  cases fl with
  | next => exact hr.elim
  | brk => exact hr.elim
  | cont => exact hr.elim
  | ret obj =>
  obtain ⟨rfl, rfl⟩ := hr
  have hS : (s.heap.push (newS w)).get? s.heap.objs.size = some (newS w) := Heap.get?_push_size _ rfl
  have hT : Shared.TypeIs { s with heap := s.heap.push (newS w) } (.ref s.heap.objs.size) "set" := ⟨_, hS, rfl⟩
  have hli := F.called_set.init.lookup
  have hbi := F.called_set.init.bind (.ref s.heap.objs.size)
  repeat (any_goals (first | assumption | wp_step))
  refine codeAny_mono (codeAny_call_builtin (R := wants (fun r s₂ => r = .none ∧ ∃ h' tk c, s₂ = { s with heap := h', toks := tk } ∧ At w h' s.heap.objs.size (fun j => decide (j ∈ xs)) c ∧ c ≤ xs.length ∧
      (∀ b o, s.heap.get? b = some o → h'.get? b = some o)) E) F.called_set.init.plain F.entry_set_init (check_set_init_1 hT ?_)) fun r₂ s₂ hr₂ => ?_
  · obtain ⟨ol, hol, hcl, nl, hdl⟩ := hl
    obtain ⟨ocls, odict, odata, oslots⟩ := ol
    simp only at hcl hdl
    subst hcl; subst hdl
    have hol' : (s.heap.push (newS w)).get? l = some { cls := .type "list", dict := odict, data := .seq items nl, slots := oslots } := Heap.get?_push_of_some _ hol
    have hsls := F.sub_list_set
    have hslf := F.sub_list_frozenset
    have hne : (Value.type "list" == Value.type "dict") = false := by decide
    have hl1 : (s.heap.push (newS w)).IsList l items := ⟨_, hol', rfl, nl, rfl⟩
    have hlS : l < s.heap.objs.size := Heap.lt_size hol
    have hz1 : (s.heap.push (newS w)).objs.size = s.heap.objs.size + 1 := Heap.size_push ..
    unfold Builtin.«set.__init__» noKeywords Builtin.Frozenset.updateFrom
    generalize hPI : pyIter = PI
    wp_walk
    subst hPI
    refine wpAny_pyIter_list hl1 (wpAny_bind (wpAny_runValue ?_))
    have hh3 : A.in1.in1.in1.handled = none := by simp [hh]
    have hneI : l ≠ (s.heap.push (newS w)).objs.size := by rw [hz1]; exact Nat.ne_of_lt (Nat.lt_succ_of_lt hlS)
    have hSf : s.heap.objs.size ∉ [(s.heap.push (newS w)).objs.size, l] := by
      rw [hz1]
      simp only [List.mem_cons, List.mem_singleton, List.not_mem_nil, or_false, not_or]
      exact ⟨Nat.ne_of_lt (Nat.lt_succ_self _), Nat.ne_of_gt hlS⟩
    have hval : ∀ (i : Nat) (v : Value), items[i]? = some v → ∃ k t, xs[i]? = some k ∧ v = .str k t := fun i v hv => by
      have hi : i < xs.length := by rw [← hisz]; exact (Array.getElem?_eq_some_iff.mp hv).1
      obtain ⟨t, e⟩ := SS.strs_at hit i v (by rw [Array.getElem?_toList]; exact hv)
      exact ⟨xs[i], t, List.getElem?_eq_getElem hi, by rw [e, List.getD_eq_getElem?_getD, List.getElem?_eq_getElem hi]; rfl⟩
    refine fill ((Walks.list hh3 _ l hneI items).toS) s.heap.objs.size hSf xs hisz hb hval (items.size - 0) 0 _ (by omega) (Nat.zero_le _) ⟨⟨_, Heap.get?_push_size _ rfl, rfl, rfl⟩, (hl1.push _)⟩
      ⟨0, Nat.le_refl 0, by rw [List.take_zero]; exact fresh_at (Heap.get?_push_of_some _ hS)⟩ fun s' c' hm hc' hS' => ?_
    obtain ⟨h', g2, d', tk', os'⟩ := s'
    have eg : g2 = s.gens := hm.gens
    have ed : d' = s.drawn := hm.drawn
    have eo : os' = s.os := hm.os
    subst eg; subst ed; subst eo
    rw [hisz] at hc'
    show wpAny _ _ _ _ _ _
    refine wpAny_pure ?_
    show wpAny _ _ (ret Value.none) _ _ _
    refine wpAny_pure ⟨rfl, h', tk', c', rfl, hS', hc', fun b o e => ?_⟩
    have hb0 : b < s.heap.objs.size := Heap.lt_size e
    refine hm.heap b o ?_ (Heap.get?_push_of_some _ (Heap.get?_push_of_some _ e))
    rw [hz1]
    simp only [List.mem_cons, List.mem_singleton, List.not_mem_nil, or_false, not_or]
    exact ⟨Nat.ne_of_lt hb0, Nat.ne_of_lt (Nat.lt_succ_of_lt hb0)⟩
  · cases r₂ with
    | error e => exact hr₂
    | ok fl₂ =>
      cases fl₂ with
      | ret r =>
        obtain ⟨rfl, h', tk, c', rfl, hS', hc', hk'⟩ := hr₂
        repeat (any_goals (first | assumption | wp_step))
        exact h _ _ _ hS' hc' hk'
      | _ => exact hr₂.elim
/-- sorted(found) -/
theorem call_sorted {a : Addr} {S : Str → Bool} {n : Nat} {Q : Value → Shared → Prop} (R : At w s.heap a S n) (hh : A.handled = none) (h64 : n < 64)
    (hQ : ∀ s' p (out : Array Value) (c : Nat) (ys : List Str), (∀ b o, s.heap.get? b = some o → s'.heap.get? b = some o) → s'.gens = s.gens → s'.os = s.os → s.heap.objs.size ≤ p →
      s'.heap.get? p = some (seqObj "list" out c) → PyProof.Rows.StrsAre out.toList ys → ys.Nodup → sortedS ys = true → (∀ k, k ∈ ys ↔ S k = true) → ys.length ≤ n → Q (.ref p) s') :
    wpAny (model P w) A (call (.builtin "sorted") [.ref a]) Q E s := by
  obtain ⟨o, es, ep, t, ho, hex, hd, g, nd, hm, hb, hf, hn, hr, hl⟩ := R.ex
  refine Calls.call_function_entry kind_sorted plain_sorted entry_sorted (args_sorted1 _) ?_
  unfold Builtin.«sorted»
  refine wpAny_bind (m := checkCount "sorted" 1 1 _) (wpAny_pure ?_)
  refine wpAny_bind (collect_set (A := A.in1) hh ⟨o, ho, hex.1, hd⟩ hf hb hr hl fun s1 vs k1 hz g1 o1 pm => ?_)
  have hvl : vs.length = n := by rw [pm.length_eq, List.length_map, Array.length_toList]; exact hn
  have hI : ∀ (l : List Value), (∀ v ∈ l, ∃ k tk, v = Value.str k tk) → PyProof.Rows.StrsAre l (l.map fun v => match v with | .str k _ => k | _ => Str.empty) := by
    intro l
    induction l with
    | nil => intro _; exact .nil
    | cons v l ih =>
      intro hv
      obtain ⟨k, tk, rfl⟩ := hv v (by simp)
      exact .cons k tk (ih fun v h => hv v (by simp [h]))
  have hS := hI vs fun v hv => by
    obtain ⟨e, he, q⟩ := List.mem_map.mp (pm.mem_iff.mp hv)
    obtain ⟨k, tk, h1, _⟩ := g e he
    exact ⟨k, tk, by rw [← q]; exact h1⟩
  have pk : (vs.map fun v => match v with | .str k _ => k | _ => Str.empty).Perm (es.toList.map txt) := by
    have q := pm.map fun v : Value => match v with | .str k _ => k | _ => Str.empty
    rw [List.map_map] at q
    exact q
  generalize (vs.map fun v => match v with | .str k _ => k | _ => Str.empty) = xs at hS pk
  refine wpAny_bind (wpAny_newList ?_ (by rw [hvl, sizeLine_eq]; omega))
  have hoL : (s1.heap.push (seqObj "list" vs.toArray 0)).get? s1.heap.objs.size = some (seqObj "list" vs.toArray 0) := Heap.get?_push_size _ rfl
  refine wpAny_bind (wpAny_holding (wpAny_call_entry slot_list_sort ⟨_, hoL, rfl⟩ entry_list_sort (PyProof.Rows.list_sort_treeK PyProof.Rows.strKind_oneLt hoL hS.keysOf (fun v₁ v₂ rest e => PyProof.Rows.keyKind_strs (by rw [← e]; exact hS)) (by rw [hvl]; exact h64) fun st' hp hs => ?_) (args_list_sort _)))
  obtain ⟨ys, a1, a2, a3⟩ := PyProof.Rows.sorted_out_str hS hp hs
  refine ⟨_, rfl, ?_⟩
  obtain ⟨c, hc⟩ := sortedHeap_at (vs := vs) (out := (PyProof.Rows.arrOf st').map (·.2)) hoL
  have pn := a2.trans pk
  refine wpAny_pure ⟨_, rfl, hQ _ s1.heap.objs.size _ c ys (fun b u e => ?_) g1 o1 hz hc a1 (pn.nodup_iff.mpr nd) a3 (fun k => by rw [pn.mem_iff, ← hm k]) (by rw [pn.length_eq, List.length_map, Array.length_toList, hn]; exact Nat.le_refl _)⟩
  have q := k1 b u e
  have hlt := Heap.lt_size q
  show (sortedHeap (s1.heap.push (seqObj "list" vs.toArray 0)) s1.heap.objs.size vs _).get? b = some u
  rw [sortedHeap_old (Nat.ne_of_lt hlt) (by rw [size_push']; exact Nat.lt_succ_of_lt hlt)]
  exact Heap.get?_push_of_some _ q
end
end TS
end SW

set_option Elab.async false
set_option linter.all false
set_option maxRecDepth 100000
set_option maxHeartbeats 4000000
/-! sets of tuples of texts: the search, one put in -/
namespace SW
namespace TT
open PySem PySem.Spec PyProof.Rows L2
/-- a tuple's hash, a tuple of the texts k at a -/
abbrev hsh (P : Program) (w : World) (k : List Str) : Int := tupleKeyHash (strKind P w) k
abbrev Is (P : Program) (w : World) (h : Heap) (k : List Str) (a : Addr) : Prop := IsTupleKey (strKind P w) h k a
abbrev Ent := Addr × List Str
def ent (P : Program) (w : World) (p : Ent) : Int × Value := (hsh P w p.2, Value.ref p.1)
/-- the set at a holds the entries L, in this order -/
structure At (P : Program) (w : World) (h : Heap) (a : Addr) (L : List Ent) (es : Array (Int × Value)) (ep : Nat) (t : SetTable) : Prop where
  ob : ∃ o, h.get? a = some o ∧ o.ExactSet ∧ o.data = .set es ep t
  rows : es.toList = L.map (ent P w)
  tab : TabOk t (L.map fun p => hsh P w p.2)
  nd : (L.map (·.2)).Nodup
  led : w.params.followText "set-order" = true ∨ t.led = true
  room : L.length * 5 < t.mask * 3
  few : L.length < 64
section
variable {P : Program} {w : World} {A : Around} {E : Value → Shared → Prop} {s : Shared} {a : Addr} {L : List Ent} {es : Array (Int × Value)} {ep : Nat} {t : SetTable}
theorem texts {k : List Str} {vs : List Value} (h : ItemsAre (strKind P w) k vs) : ∀ v ∈ vs, ∃ x t, v = Value.str x t := by
  induction h with
  | nil => exact fun v hv => nomatch hv
  | @cons x v ks vs h1 _ ih =>
    intro u hu
    rcases List.mem_cons.mp hu with rfl | hu
    · obtain ⟨t, rfl⟩ := Value.isStrOf_shape h1
      exact ⟨x, t, rfl⟩
    · exact ih u hu
theorem ofA_str (n : Nat) (x : Str) (t : Tok) : ofAClassStatement n (.str x t) = pure false := by cases n <;> rfl
theorem hby_str (n : Nat) (x : Str) (t : Tok) : hashByValue n (.str x t) = pure false := by cases n <;> rfl
theorem ofA {k : List Str} {b : Addr} {Q : Bool → Shared → Prop} (hk : Is P w s.heap k b) (h : Q false s) : wpAny (model P w) A (ofAClassStatement 8 (.ref b)) Q E s := by
  have hT := hk.typeIs
  obtain ⟨o, items, n, ho, _, hd, hi⟩ := hk
  unfold ofAClassStatement
  refine wpAny_bind (wpAny_typeOf hT ?_)
  dsimp only
  have e : (("tuple" : String) == "tuple") = true := by decide
  simp only [e, if_true, Bool.not_true, Bool.false_eq_true, if_false]
  try refine wpAny_bind (wpAny_pure ?_)
  try simp only [Bool.not_true, Bool.false_eq_true, if_false]
  show wpAny _ _ (seqItems? (.ref b) >>= _) _ _ s
  refine wpAny_bind (wpAny_seqItems ho hd ?_)
  dsimp only
  refine wpAny_bind ?_
  show wpAny _ _ (forIn items _ _) _ _ s
  rw [← Array.forIn_toList]
  refine wpAny_forIn_list _ (fun rest r s' => r.1 = none ∧ s' = s ∧ ∀ v ∈ rest, ∃ x t, v = Value.str x t) _ ?_ ?_ _ _ ⟨rfl, rfl, texts hi⟩
  · rintro v rest r s' ⟨hr, rfl, hall⟩
    obtain ⟨x, t, rfl⟩ := hall v List.mem_cons_self
    rw [ofA_str]
    refine wpAny_bind (wpAny_pure ?_)
    simp only [Bool.false_eq_true, if_false]
    exact wpAny_pure ⟨rfl, rfl, fun u hu => hall u (List.mem_cons_of_mem _ hu)⟩
  · rintro ⟨r1, r2⟩ s' ⟨hr, rfl, _⟩
    cases (show r1 = none from hr)
    exact wpAny_pure h
/-- the table is told of the first text that its order is not by value -/
theorem hby {k : List Str} {b : Addr} {Q : Bool → Shared → Prop} (hk : Is P w s.heap k b) (h : ∀ r, Q r s) : wpAny (model P w) A (hashByValue 8 (.ref b)) Q E s := by
  have hT := hk.typeIs
  obtain ⟨o, items, n, ho, _, hd, hi⟩ := hk
  unfold hashByValue
  refine wpAny_bind (wpAny_specialOf hT F.slot_tuple_hash.lookup ?_)
  show wpAny _ _ (seqItems? (.ref b) >>= _) _ _ s
  refine wpAny_bind (wpAny_seqItems ho hd ?_)
  refine wpAny_bind ?_
  show wpAny _ _ (forIn items _ _) _ _ s
  rw [← Array.forIn_toList]
  refine wpAny_forIn_list _ (fun rest r s' => s' = s ∧ ∀ v ∈ rest, ∃ x t, v = Value.str x t) _ ?_ ?_ _ _ ⟨rfl, texts hi⟩
  · rintro v rest r s' ⟨rfl, hall⟩
    obtain ⟨x, t, rfl⟩ := hall v List.mem_cons_self
    rw [hby_str]
    refine wpAny_bind (wpAny_pure ?_)
    simp only [Bool.not_false, if_true]
    exact wpAny_pure (wpAny_pure (h false))
  · rintro ⟨r1, r2⟩ s' ⟨rfl, _⟩
    cases r1 with
    | none => exact wpAny_pure (h _)
    | some r => exact wpAny_pure (h _)
theorem unseen {k : List Str} {b : Addr} {Q : Bool → Shared → Prop} (hk : Is P w s.heap k b) {ys : List Value} (hy : ∀ y ∈ ys, ∃ k' c, y = Value.ref c ∧ Is P w s.heap k' c) (h : Q false s) : wpAny (model P w) A (searchCouldBeSeen (.ref b) ys) Q E s := by
  unfold searchCouldBeSeen
  refine wpAny_bind ?_
  refine wpAny_forIn_list _ (fun rest r s' => r.1 = none ∧ s' = s ∧ ∀ y ∈ rest, ∃ k' c, y = Value.ref c ∧ Is P w s.heap k' c) _ ?_ ?_ _ _ ⟨rfl, rfl, hy⟩
  · rintro v rest r s' ⟨hr, rfl, hall⟩
    obtain ⟨k', c, rfl, hc⟩ := hall v List.mem_cons_self
    have rest' : ∀ y ∈ rest, ∃ k' c, y = Value.ref c ∧ Is P w s'.heap k' c := fun u hu => hall u (List.mem_cons_of_mem _ hu)
    dsimp only
    by_cases hv : (b == c || (carriedByValue (.ref b) && carriedByValue (.ref c))) = true
    · exact wp_if_pos hv (wpAny_pure ⟨rfl, rfl, rest'⟩)
    · refine wp_if_neg hv ?_
      refine wpAny_bind (wpAny_eqIsQuiet_tuple hk ?_)
      simp only [Bool.not_true, Bool.false_eq_true, if_false]
      refine wpAny_bind (wpAny_eqIsQuiet_tuple hc ?_)
      simp only [Bool.not_true, Bool.false_eq_true, if_false]
      refine wpAny_bind (ofA hk ?_)
      simp only [Bool.false_eq_true, if_false]
      refine wpAny_bind (ofA hc ?_)
      simp only [Bool.false_eq_true, if_false]
      exact wpAny_pure ⟨rfl, rfl, rest'⟩
  · rintro ⟨r1, r2⟩ s' ⟨hr, rfl, _⟩
    cases (show r1 = none from hr)
    exact wpAny_pure h
/-! the entries -/
theorem At.size (R : At P w s.heap a L es ep t) : es.size = L.length := by rw [← Array.length_toList, R.rows, List.length_map]
theorem At.psz (R : At P w s.heap a L es ep t) : t.place.toList.length = L.length := by rw [Array.length_toList, R.tab.sz, List.length_map]
theorem At.fits (R : At P w s.heap a L es ep t) : t.fits es.size = true := by
  have h1 := R.psz
  have h2 := R.size
  have h3 := R.room
  rw [Array.length_toList] at h1
  unfold SetTable.fits SetTable.fill
  rw [R.tab.dm, Bool.and_eq_true, beq_iff_eq, decide_eq_true_eq]
  show t.place.size = es.size ∧ t.place.size + 0 ≤ t.mask
  omega
theorem At.get (R : At P w s.heap a L es ep t) {i : Nat} {p : Ent} (h : L[i]? = some p) : es[i]? = some (ent P w p) := by
  rw [← Array.getElem?_toList, R.rows, List.getElem?_map, h]; rfl
theorem At.hashAt (R : At P w s.heap a L es ep t) {i : Nat} {p : Ent} (h : L[i]? = some p) : (es[i]?.map (·.1)).getD 0 = hsh P w p.2 := by rw [R.get h]; rfl
theorem At.sound (R : At P w s.heap a L es ep t) : ¬ t.gaveWay = true := by
  unfold SetTable.gaveWay
  rw [mask_odd R.tab.mok]
  decide
/-- the way of a hash through a table: its c-th step -/
abbrev stp (t : SetTable) (h : Int) (c : Nat) : SetTable.Probe := nth t.mask (runAt t.mask (SetTable.bits h % (t.mask + 1)) (SetTable.bits h)) c
theorem stp_dummy (t : SetTable) (h : Int) : ∀ c, (stp t h c).dummy = none
  | 0 => rfl
  | c + 1 => by
    have ih := stp_dummy t h c
    show (nth t.mask _ (c + 1)).dummy = none
    rw [nth_succ]
    unfold adv
    split <;> exact ih
theorem stp_add (t : SetTable) (h : Int) (c q : Nat) : nth t.mask (stp t h c) q = stp t h (c + q) := (nth_add t.mask c _ q).symm
/-- how the search goes on from its c-th step: it meets an entry of this hash, or the empty place -/
theorem met (R : At P w s.heap a L es ep t) (h : Int) {K c : Nat} (hc : c ≤ K) (hKf : K < 10 * SetTable.turns t.mask) (hK : way t.mask h K ∉ t.place.toList) (hKb : ∀ c, c < K → way t.mask h c ∈ t.place.toList) {p : SetTable.Probe} (hp : p = stp t h c) :
    (∃ (c1 i : Nat) (e : Ent), c ≤ c1 ∧ c1 < K ∧ t.place.toList[i]? = some (way t.mask h c1) ∧ L[i]? = some e ∧ hsh P w e.2 = h ∧ (∀ (c' i' : Nat) (e' : Ent), c ≤ c' → c' < c1 → t.place.toList[i']? = some (way t.mask h c') → L[i']? = some e' → hsh P w e'.2 ≠ h) ∧
      t.probe (fun i => (es[i]?.map (·.1)).getD 0) h p = some (.candidate (way t.mask h c1) i (stp t h (c1 + 1)))) ∨
    ((∀ (c' i' : Nat) (e' : Ent), c ≤ c' → c' < K → t.place.toList[i']? = some (way t.mask h c') → L[i']? = some e' → hsh P w e'.2 ≠ h) ∧ t.probe (fun i => (es[i]?.map (·.1)).getD 0) h p = some (.empty (way t.mask h K) none)) := by
  subst hp
  have e1 : ∀ q, (nth t.mask (stp t h c) q).j = way t.mask h (c + q) := fun q => congrArg SetTable.Probe.j (stp_add t h c q)
  have eK : c + (K - c) = K := by omega
  rcases go_spec t R.tab.ris R.tab.dm (fun i => (es[i]?.map (·.1)).getD 0) h (10 * SetTable.turns t.mask) (K - c) (stp t h c) (stp_dummy t h c) (by omega)
      (fun q hq => by rw [e1]; exact hKb _ (by omega)) (by rw [e1, eK]; exact hK) with ⟨q, i, hq, hi, hh, hno, hpr⟩ | ⟨hno, hpr⟩
  · rw [e1] at hi hpr
    rw [stp_add] at hpr
    have hil : i < L.length := by rw [← R.psz]; exact (List.getElem?_eq_some_iff.mp hi).1
    refine .inl ⟨c + q, i, L[i], Nat.le_add_right _ _, by omega, hi, List.getElem?_eq_getElem hil, ?_, fun c' i' e' g1 g2 g3 g4 => ?_, hpr⟩
    · rw [← R.hashAt (List.getElem?_eq_getElem hil)]; exact hh
    · have z := hno (c' - c) i' (by omega) (by rw [e1, show c + (c' - c) = c' by omega]; exact g3)
      rw [R.hashAt g4] at z
      exact z
  · refine .inr ⟨fun c' i' e' g1 g2 g3 g4 => ?_, ?_⟩
    · have z := hno (c' - c) i' (by omega) (by rw [e1, show c + (c' - c) = c' by omega]; exact g3)
      rw [R.hashAt g4] at z
      exact z
    · rw [e1, eK] at hpr
      exact hpr
theorem search_from (R : At P w s.heap a L es ep t) (T : ∀ p ∈ L, Is P w s.heap p.2 p.1) {x : Addr} {k : List Str} (hx : Is P w s.heap k x) (hu : A.units < cLine) {K : Nat} (hKf : K < 10 * SetTable.turns t.mask)
    (hK : way t.mask (hsh P w k) K ∉ t.place.toList) (hKb : ∀ c, c < K → way t.mask (hsh P w k) c ∈ t.place.toList) {Q : SetFound → Shared → Prop}
    (hin : k ∈ L.map (·.2) → Q (.there none) s) (hout : k ∉ L.map (·.2) → Q (.free (way t.mask (hsh P w k) K) false) s) :
    ∀ (f c : Nat) (st : Option SetTable.Probe), st.getD (t.probeStart (hsh P w k)) = stp t (hsh P w k) c → c ≤ K → K - c < f →
      (∀ (i : Nat) p, L[i]? = some p → p.2 = k → ∃ c', c ≤ c' ∧ c' < K ∧ t.place.toList[i]? = some (way t.mask (hsh P w k) c')) →
      wpAny (model P w) A (setSearchFrom a (.ref x) (hsh P w k) true f st) Q E s
  | 0, c, st, _, _, hf, _ => absurd hf (Nat.not_lt_zero _)
  | f + 1, c, st, hst, hc, hf, hre => by
    obtain ⟨o, ho, hex, hd⟩ := R.ob
    rw [setSearchFrom_succ]
    refine wpAny_bind (wpAny_setState_of ho hd R.fits ?_)
    dsimp only
    refine wp_if_neg R.sound ?_
    try refine wpAny_bind (wpAny_pure ?_)
    rcases met R (hsh P w k) hc hKf hK hKb hst with ⟨c1, i, e, g1, g2, hi, hp, hh, hno, hpr⟩ | ⟨hno, hpr⟩
    · rw [hpr]
      dsimp only
      have hm : e ∈ L := List.mem_of_getElem? hp
      have rest : wpAny (model P w) A (searchRest a (.ref x) (hsh P w k) true f es t (way t.mask (hsh P w k) c1) i (stp t (hsh P w k) (c1 + 1))) Q E s := by
        unfold searchRest
        rw [R.get hp]
        unfold ent
        dsimp only
        refine wpAny_bind (wpAny_holding (wpAny_eqBool_tuple hu (T e hm) hx ?_))
        refine wpAny_bind (wpAny_setState_of ho hd R.fits ?_)
        dsimp only
        by_cases hkk : e.2 = k
        · exact wp_if_pos (by simp [hkk]) (wpAny_pure (hin (List.mem_map.mpr ⟨e, hm, hkk⟩)))
        · refine wp_if_neg (by simp [hkk]) ?_
          try refine wpAny_bind (wpAny_pure ?_)
          rw [sameMem]
          dsimp only
          have hsl : t.slot (way t.mask (hsh P w k) c1) = .live i := slot_live R.tab.ris hi
          simp only [if_true, hsl, R.get hp]
          unfold ent
          refine wpAny_bind (wpAny_isSame_ref_self (wpAny_bind (wpAny_pure ?_)))
          simp only [if_true]
          refine wp_if_neg (by simp [hkk]) ?_
          refine search_from R T hx hu hKf hK hKb hin hout f (c1 + 1) _ rfl (by omega) (by omega) fun i0 p0 h0 hk0 => ?_
          obtain ⟨c', a1, a2, a3⟩ := hre i0 p0 h0 hk0
          refine ⟨c', ?_, a2, a3⟩
          rcases Nat.lt_trichotomy c' c1 with z | z | z
          · exact absurd (congrArg (hsh P w) hk0) (hno c' i0 p0 a1 z a3 h0)
          · subst z
            have s0 := slot_live R.tab.ris a3
            rw [hsl] at s0
            injection s0 with s0
            rw [← s0, hp] at h0
            cases h0
            exact absurd hk0 hkk
          · exact z
      by_cases hl : t.led = true
      · refine wp_if_neg (by simp [hl]) ?_
        try refine wpAny_bind (wpAny_pure ?_)
        exact rest
      · refine wp_if_pos (by simp [hl]) ?_
        refine wpAny_bind (unseen hx (fun y hy => ?_) ?_)
        · obtain ⟨u, hu1, hu2⟩ := List.mem_map.mp hy
          have hu3 : u ∈ es ∧ u.1 = hsh P w k := by simpa using hu1
          have hu4 : u ∈ es.toList := by simpa using hu3.1
          rw [R.rows] at hu4
          obtain ⟨p2, hp2, e2⟩ := List.mem_map.mp hu4
          exact ⟨p2.2, p2.1, by rw [← hu2, ← e2]; rfl, T p2 hp2⟩
        · refine wp_if_neg (by decide) ?_
          try refine wpAny_bind (wpAny_pure ?_)
          exact rest
    · rw [hpr]
      dsimp only
      refine wpAny_pure (hout fun hm => ?_)
      obtain ⟨p0, h0, hk0⟩ := List.mem_map.mp hm
      obtain ⟨i0, hi0⟩ := List.getElem?_of_mem h0
      obtain ⟨c', a1, a2, a3⟩ := hre i0 p0 hi0 hk0
      exact hno c' i0 p0 a1 a2 a3 hi0 (congrArg (hsh P w) hk0)
theorem search (R : At P w s.heap a L es ep t) (T : ∀ p ∈ L, Is P w s.heap p.2 p.1) {x : Addr} {k : List Str} (hx : Is P w s.heap k x) (hu : A.units < cLine) {Q : SetFound → Shared → Prop} (hin : k ∈ L.map (·.2) → Q (.there none) s)
    (hout : ∀ K, k ∉ L.map (·.2) → way t.mask (hsh P w k) K ∉ t.place.toList → (∀ c, c < K → way t.mask (hsh P w k) c ∈ t.place.toList) → Q (.free (way t.mask (hsh P w k) K) false) s) :
    wpAny (model P w) A (setSearch a (.ref x) (hsh P w k) true) Q E s := by
  have hroom := R.room
  obtain ⟨K, hKf, hK, hKb⟩ := R.tab.first (by rw [List.length_map]; omega) (hsh P w k)
  have hbig : K < 100000 := by
    have : 10 * SetTable.turns t.mask ≤ 1420 := by
      unfold SetTable.turns
      rcases R.tab.mok with e | e | e <;> omega
    omega
  unfold setSearch
  refine search_from R T hx hu hKf hK hKb hin (fun hn => hout K hn hK hKb) 100000 0 none rfl (Nat.zero_le _) (by omega) fun i p hp hk => ?_
  have hi : (L.map fun p => hsh P w p.2)[i]? = some (hsh P w k) := by rw [List.getElem?_map, hp, ← hk]; rfl
  have hil : i < t.place.toList.length := by rw [R.psz]; exact (List.getElem?_eq_some_iff.mp hp).1
  have hj := List.getElem?_eq_getElem hil
  obtain ⟨c, hc, e⟩ := R.tab.before hK hi hj
  exact ⟨c, Nat.zero_le _, hc, by rw [hj, e]⟩
end
end TT
end SW

set_option Elab.async false
set_option linter.all false
set_option maxRecDepth 100000
set_option maxHeartbeats 4000000
/-! sets of tuples of texts: laid anew, one put in, made of a list -/
namespace SW
namespace TT
open PySem PySem.Spec PyProof.Rows L2
section
variable {P : Program} {w : World} {A : Around} {E : Value → Shared → Prop} {s : Shared}
theorem Is.but {h h' : Heap} {k : List Str} {a b : Addr} {o : Obj} {es : Array (Int × Value)} {ep : Nat} {t : SetTable} (hb : Is P w h k b) (ho : h.get? a = some o) (hd : o.data = .set es ep t) (hs : Heap.SameBut a h h') : Is P w h' k b := by
  obtain ⟨o', items, n, ho', hc, hd', hi⟩ := hb
  refine ⟨o', items, n, (hs.2 b ?_).trans ho', hc, hd', hi⟩
  rintro rfl
  cases ho'.symm.trans ho
  rw [hd] at hd'
  cases hd'
theorem Is.keep {h h' : Heap} {k : List Str} {b : Addr} (x : Is P w h k b) (hk : ∀ c o, h.get? c = some o → h'.get? c = some o) : Is P w h' k b := by
  obtain ⟨o, items, n, ho, r⟩ := x
  exact ⟨o, items, n, hk b o ho, r⟩
/-- the entries in another order -/
theorem reorder (L : List Ent) (es : Array (Int × Value)) (hr : es.toList = L.map (ent P w)) : ∀ l : List Nat, (∀ i ∈ l, i < L.length) →
    l.filterMap (fun i => es[i]?) = (l.filterMap fun i => L[i]?).map (ent P w) ∧ ((l.filterMap fun i => L[i]?).map fun p => hsh P w p.2) = l.map fun i => (es.map (·.1)).getD i 0
  | [], _ => ⟨rfl, rfl⟩
  | i :: l, hl => by
    have hi := hl i List.mem_cons_self
    obtain ⟨e1, e2⟩ := reorder L es hr l fun j hj => hl j (List.mem_cons_of_mem _ hj)
    have eL := List.getElem?_eq_getElem hi
    have ee : es[i]? = some (ent P w L[i]) := by rw [← Array.getElem?_toList, hr, List.getElem?_map, eL]; rfl
    rw [List.filterMap_cons_some ee, List.filterMap_cons_some eL, List.map_cons, List.map_cons, List.map_cons, e1, e2]
    refine ⟨rfl, ?_⟩
    have e5 : (es.map (·.1))[i]? = some (hsh P w (L[i]).2) := by rw [Array.getElem?_map, ee]; rfl
    simp [Array.getD_eq_getD_getElem?, e5]
theorem range_all {α : Type} (L : List α) : (List.range L.length).filterMap (fun i => L[i]?) = L := by
  have key : ∀ n, n ≤ L.length → (List.range n).filterMap (fun i => L[i]?) = L.take n := by
    intro n
    induction n with
    | zero => intro _; rfl
    | succ n ih =>
      intro hn
      have hlt : n < L.length := hn
      rw [List.range_succ, List.filterMap_append, ih (Nat.le_of_lt hlt), List.take_succ, List.getElem?_eq_getElem hlt, List.filterMap_cons_some (List.getElem?_eq_getElem hlt)]
      rfl
  rw [key L.length (Nat.le_refl _), List.take_length]
variable {a : Addr} {L : List Ent} {es : Array (Int × Value)} {ep : Nat} {t : SetTable}
theorem relay {o : Obj} (ho : s.heap.get? a = some o) (hex : o.ExactSet) (hd : o.data = .set es ep t) (hrows : es.toList = L.map (ent P w)) (hsz : t.place.size = es.size) (hdm : t.dummies = #[]) (hfl : es.size ≤ t.mask)
    (nd : (L.map (·.2)).Nodup) (ld : w.params.followText "set-order" = true ∨ t.led = true) (few : L.length < 64) {wanted M : Nat} (hw : SetTable.sizeAbove wanted - 1 = M) (hM : MaskOk M) (hw2 : SetTable.sizeAbove wanted ≤ 128) (hn : L.length * 5 < M * 3) {Q : Unit → Shared → Prop}
    (hQ : ∀ h' L' es' ep' t', Heap.SameBut a s.heap h' → At P w h' a L' es' ep' t' → L'.Perm L → Q () { s with heap := h' }) : wpAny (model P w) A (setRelay a wanted) Q E s := by
  have hsl : es.size = L.length := by rw [← Array.length_toList, hrows, List.length_map]
  have hfits : t.fits es.size = true := by
    unfold SetTable.fits SetTable.fill
    rw [hdm, Bool.and_eq_true, beq_iff_eq, decide_eq_true_eq]
    show t.place.size = es.size ∧ t.place.size + 0 ≤ t.mask
    omega
  obtain ⟨t', order, e, hp, T, em, el, _, _⟩ := relaid_ok t (hs := es.map (·.1)) (wanted := wanted) hw hM (by rw [Array.size_map, hsl]; omega)
  rw [Array.size_map, hsl] at hp
  obtain ⟨r1, r3⟩ := reorder L es hrows order.toList fun i hi => List.mem_range.mp (hp.mem_iff.mp hi)
  have r2 : (order.toList.filterMap fun i => L[i]?).Perm L := by
    have z := hp.filterMap fun i => L[i]?
    rw [range_all] at z
    exact z
  rw [← r3] at T
  have r1' : (order.filterMap (es[·]?)).toList = (order.toList.filterMap fun i => L[i]?).map (ent P w) := by
    first | (rw [Array.toList_filterMap]; exact r1) | simpa using r1
  generalize (order.toList.filterMap fun i => L[i]?) = L2 at r1 r1' r2 T
  have hs2 : (order.filterMap (es[·]?)).size = es.size := by rw [← Array.length_toList, r1', List.length_map, r2.length_eq, hsl]
  rw [setRelay_eq]
  refine wpAny_bind (wpAny_setState_of ho hd hfits ?_)
  dsimp only
  refine wp_if_neg (by rw [sizeLine_eq]; omega) ?_
  try refine wpAny_bind (wpAny_pure ?_)
  rw [e]
  dsimp only
  refine wpAny_bind ?_
  refine wp_if_neg (by rw [hs2]; simp) ?_
  try refine wpAny_bind (wpAny_pure ?_)
  refine wpAny_pure ?_
  dsimp only
  refine wpAny_storeSet_of ho hd ?_ (by rw [hs2, hsl, sizeLine_eq]; omega)
  have sb : Heap.SameBut a s.heap (s.heap.update a (Obj.putSet (order.filterMap (es[·]?)) t')) := Heap.SameBut.update ..
  exact hQ _ L2 (order.filterMap (es[·]?)) (ep + 1) t' sb ⟨⟨_, store_at ho hd, ⟨hex.1, hex.2.1, hex.2.2⟩, rfl⟩, r1', T, (r2.map (·.2)).nodup_iff.mpr nd, by rw [el]; exact ld, by rw [r2.length_eq, em]; exact hn, by rw [r2.length_eq]; exact few⟩ r2
theorem tab_off {t : SetTable} {hs : List Int} (T : TabOk t hs) : TabOk { t with plain := false } hs := ⟨T.ris, T.dm, T.sz, T.mok, T.bd, T.reach⟩
/-- x put in -/
theorem add (R : At P w s.heap a L es ep t) (T : ∀ p ∈ L, Is P w s.heap p.2 p.1) {x : Addr} {k : List Str} (hx : Is P w s.heap k x) (hu : A.units < cLine) (hfew : L.length + 1 < 64) {Q : Bool → Shared → Prop}
    (hQ : ∀ b h' L' es' ep' t', Heap.SameBut a s.heap h' → At P w h' a L' es' ep' t' → (k ∈ L.map (·.2) → L' = L) → (k ∉ L.map (·.2) → L'.Perm ((x, k) :: L)) → Q b { s with heap := h' }) :
    wpAny (model P w) A (setAddHashed a (.ref x) (hsh P w k)) Q E s := by
  obtain ⟨o, ho, hex, hd⟩ := R.ob
  have hsl := R.size
  have hroom := R.room
  unfold setAddHashed
  refine wpAny_holding ?_
  rw [show (100000 : Nat) = 99999 + 1 from rfl, setAddHashedIn_succ]
  refine wpAny_bind (wpAny_setState_of ho hd R.fits ?_)
  dsimp only
  refine wp_if_neg (by simp [byScan, Value.scannable]) ?_
  try refine wpAny_bind (wpAny_pure ?_)
  refine wpAny_bind (search R T hx hu (fun hm => ?_) fun K hm hK hb => ?_)
  · dsimp only
    exact wpAny_pure (hQ false s.heap L es ep t (Heap.SameBut.refl a s.heap) R (fun _ => rfl) fun z => absurd hm z)
  · dsimp only
    refine wpAny_bind (wpAny_setState_of ho hd R.fits ?_)
    dsimp only
    obtain ⟨q1, q2, q3, q4, q5, q6, q7, q8, q9⟩ := R.tab.put hK hb
    generalize hpt : t.put (way t.mask (hsh P w k) K) = pt at q1 q3 q4 q5 q6 q7 q8 q9 ⊢
    obtain ⟨t0, p⟩ := pt
    dsimp only at q1 q3 q4 q5 q6 q7 q8 q9 ⊢
    subst q1
    have hin : (SetTable.insertAt es (SetTable.below t.place (way t.mask (hsh P w k) K)) (hsh P w k, Value.ref x)).toList = (L.take (SetTable.below t.place (way t.mask (hsh P w k) K)) ++ (x, k) :: L.drop (SetTable.below t.place (way t.mask (hsh P w k) K))).map (ent P w) := by
      rw [SetTable.toList_insertAt, R.rows, List.map_append, List.map_cons, List.map_take, List.map_drop]; rfl
    generalize hpp : SetTable.below t.place (way t.mask (hsh P w k) K) = p at q2 q3 hin ⊢
    have pm := put_perm L p (x, k)
    have hlen : (L.take p ++ (x, k) :: L.drop p).length = L.length + 1 := pm.length_eq
    have hhs : (L.take p ++ (x, k) :: L.drop p).map (fun p => hsh P w p.2) = (L.map fun p => hsh P w p.2).take p ++ hsh P w k :: (L.map fun p => hsh P w p.2).drop p := by
      rw [List.map_append, List.map_cons, List.map_take, List.map_drop]
    rw [← hhs] at q3
    have nd1 : ((L.take p ++ (x, k) :: L.drop p).map (·.2)).Nodup := by
      refine (pm.map (·.2)).nodup_iff.mpr ?_
      rw [List.map_cons]
      exact List.nodup_cons.mpr ⟨hm, R.nd⟩
    have hes : (SetTable.insertAt es p (hsh P w k, Value.ref x)).size = L.length + 1 := by rw [← Array.length_toList, hin, List.length_map, hlen]
    generalize SetTable.insertAt es p (hsh P w k, Value.ref x) = es1 at hin hes ⊢
    generalize L.take p ++ (x, k) :: L.drop p = L1 at pm hlen q3 nd1 hin
    -- whatever the table is told of the order
    have fin : ∀ t1 : SetTable, TabOk t1 (L1.map fun p => hsh P w p.2) → t1.mask = t.mask → t1.led = t.led → t1.fill = (L.map fun p => hsh P w p.2).length + 1 →
        wpAny (model P w) A (do
          storeSet a es1 t1
          if (!false && t1.tooFull) = true then setRelay a (SetTable.grown (es.size + 1))
          return true) Q E s := by
      intro t1 q3 q4 q5 q9
      refine wpAny_bind (wpAny_storeSet_of ho hd ?_ (by rw [hes, sizeLine_eq]; omega))
      have sb : Heap.SameBut a s.heap (s.heap.update a (Obj.putSet es1 t1)) := Heap.SameBut.update ..
      have ho1 := store_at (es' := es1) (t' := t1) ho hd
      generalize s.heap.update a (Obj.putSet es1 t1) = h1 at sb ho1 ⊢
      have ld1 : w.params.followText "set-order" = true ∨ t1.led = true := by rw [q5]; exact R.led
      by_cases hf : t1.tooFull = true
      · first
          | (refine wpAny_bind ?_; refine wp_if_pos (by simp [hf]) ?_)
          | (refine wp_if_pos (by simp [hf]) ?_; refine wpAny_bind ?_)
        have hfull : (L.length + 1) * 5 ≥ t1.mask * 3 := by
          have h := hf
          unfold SetTable.tooFull at h
          rw [decide_eq_true_eq, q9, List.length_map] at h
          exact h
        rw [hsl]
        have hsz1 : t1.place.size = es1.size := by
          have h := q3.sz
          rw [List.length_map, hlen] at h
          rw [h, hes]
        have two : (t.mask = 7 ∧ L.length = 4) ∨ (t.mask = 31 ∧ L.length = 18) := by
          rcases R.tab.mok with e | e | e
          · left; rw [q4, e] at hfull; rw [e] at hroom; exact ⟨e, by omega⟩
          · right; rw [q4, e] at hfull; rw [e] at hroom; exact ⟨e, by omega⟩
          · exfalso; rw [q4, e] at hfull; omega
        have go : ∀ M, SetTable.sizeAbove (SetTable.grown (L.length + 1)) - 1 = M → MaskOk M → SetTable.sizeAbove (SetTable.grown (L.length + 1)) ≤ 128 → (L.length + 1) * 5 < M * 3 →
            wpAny (model P w) A (setRelay a (SetTable.grown (L.length + 1))) (fun _ s' => wpAny (model P w) A (pure true) Q E s') E { s with heap := h1 } := fun M h1' h2' h3' h4' => by
          refine relay (s := { s with heap := h1 }) ho1 ⟨hex.1, hex.2.1, hex.2.2⟩ rfl hin hsz1 q3.dm (by rw [hes, q4]; rcases two with ⟨e, e2⟩ | ⟨e, e2⟩ <;> omega) nd1 ld1 (by rw [hlen]; exact hfew) h1' h2' h3' (by rw [hlen]; exact h4') ?_
          intro h2 L2 es2 ep2 t2 sb2 R2 pm2
          exact wpAny_pure (hQ true h2 L2 es2 ep2 t2 (sb.trans sb2) R2 (fun z => absurd z hm) fun _ => pm2.trans pm)
        rcases two with ⟨_, e2⟩ | ⟨_, e2⟩
        · exact go 31 (by rw [e2, size_20]) (.inr (.inl rfl)) (by rw [e2, size_20]; decide) (by omega)
        · exact go 127 (by rw [e2, size_76]) (.inr (.inr rfl)) (by rw [e2, size_76]; decide) (by omega)
      · first
          | refine wp_if_neg (by simp [hf]) ?_
          | (refine wpAny_bind ?_; refine wp_if_neg (by simp [hf]) ?_; refine wpAny_pure ?_)
        refine wpAny_pure (hQ true h1 L1 es1 (ep + 1) t1 sb ⟨⟨_, ho1, ⟨hex.1, hex.2.1, hex.2.2⟩, rfl⟩, hin, q3, nd1, ld1, ?_, by rw [hlen]; exact hfew⟩ (fun z => absurd z hm) fun _ => pm)
        have h := hf
        unfold SetTable.tooFull at h
        rw [decide_eq_true_eq, q9, List.length_map] at h
        rw [hlen]
        omega
    have off := fin { t0 with plain := false } (tab_off q3) q4 q5 q9
    have on := fin t0 q3 q4 q5 q9
    by_cases hp1 : t0.plain = true
    · first
        | (refine wpAny_bind ?_; refine wp_if_pos hp1 ?_; refine hby hx fun r => ?_)
        | refine wp_if_pos hp1 (wpAny_bind (hby hx fun r => ?_))
      cases r with
      | true => simp only [if_true]; exact on
      | false => simp only [Bool.false_eq_true, if_false]; exact off
    · first
        | (refine wpAny_bind ?_; refine wp_if_neg hp1 ?_; refine wpAny_pure ?_)
        | (refine wp_if_neg hp1 ?_; refine wpAny_bind (wpAny_pure ?_))
      simp only [if_true]
      exact on
end
end TT
end SW

set_option Elab.async false
set_option linter.all false
set_option maxRecDepth 100000
set_option maxHeartbeats 8000000
/-! set(xs), sorted of it: tuples of texts -/
namespace SW
namespace TT
open PySem PySem.Spec PyProof.Rows L2
/-- what the set has of the first i items -/
structure Of (ks : List Ent) (i : Nat) (L : List Ent) : Prop where
  sub : ∀ p ∈ L, p ∈ ks.take i
  all : ∀ p ∈ ks.take i, p.2 ∈ L.map (·.2)
  len : L.length ≤ i
theorem Of.next {ks L L' : List Ent} {i : Nat} {x : Ent} (g : Of ks i L) (h : ks[i]? = some x) (c1 : x.2 ∈ L.map (·.2) → L' = L) (c2 : x.2 ∉ L.map (·.2) → L'.Perm (x :: L)) : Of ks (i + 1) L' := by
  have tk : ks.take (i + 1) = ks.take i ++ [x] := by rw [List.take_succ, h]; rfl
  by_cases hm : x.2 ∈ L.map (·.2)
  · rw [c1 hm]
    refine ⟨fun p hp => ?_, fun p hp => ?_, Nat.le_succ_of_le g.len⟩
    · rw [tk]; exact List.mem_append_left _ (g.sub p hp)
    · rw [tk] at hp
      rcases List.mem_append.mp hp with z | z
      · exact g.all p z
      · rw [List.mem_singleton.mp z]; exact hm
  · have pm := c2 hm
    refine ⟨fun p hp => ?_, fun p hp => ?_, ?_⟩
    · rw [tk]
      rcases List.mem_cons.mp (pm.mem_iff.mp hp) with rfl | z
      · exact List.mem_append_right _ (List.mem_singleton.mpr rfl)
      · exact List.mem_append_left _ (g.sub p z)
    · rw [(pm.map (·.2)).mem_iff, List.map_cons]
      rw [tk] at hp
      rcases List.mem_append.mp hp with z | z
      · exact List.mem_cons_of_mem _ (g.all p z)
      · rw [List.mem_singleton.mp z]; exact List.mem_cons_self
    · rw [pm.length_eq, List.length_cons]
      exact Nat.succ_le_succ g.len
section
variable {P : Program} {w : World} {A : Around} {E : Value → Shared → Prop} {s : Shared}
theorem At.keep {h h' : Heap} {a : Addr} {L : List Ent} {es : Array (Int × Value)} {ep : Nat} {t : SetTable} (R : At P w h a L es ep t) (ha : ∀ o, h.get? a = some o → h'.get? a = some o) : At P w h' a L es ep t := by
  obtain ⟨o, ho, r⟩ := R.ob
  exact ⟨⟨o, ha o ho, r⟩, R.rows, R.tab, R.nd, R.led, R.room, R.few⟩
theorem at_new {h : Heap} {a : Addr} (ho : h.get? a = some (TS.newS w)) : At P w h a [] #[] 0 (.fresh 0 0 (!w.params.followText "set-order")) where
  ob := ⟨_, ho, ⟨rfl, rfl, rfl⟩, rfl⟩
  rows := rfl
  tab := ⟨List.Pairwise.nil, rfl, rfl, .inl rfl, fun x hx => (by cases hx), fun i h j hi => (by simp at hi)⟩
  nd := List.nodup_nil
  led := by
    show _ ∨ (!w.params.followText "set-order") = true
    cases w.params.followText "set-order"
    · exact .inr rfl
    · exact .inl rfl
  room := (by decide : 0 * 5 < 7 * 3)
  few := (by decide : 0 < 64)
/-- the loop that puts the items in -/
theorem fill {I : Addr} {fp wr : List Addr} {G : Array GenState → Array GenState → Prop} {n : Nat} {Pv : Nat → Value → Prop} {St : Nat → Shared → Prop} {R : Result → Shared → Prop}
    (W : WalksS P w A.in1 I fp wr G n Pv St) (S : Addr) (hSf : S ∉ fp) (ks : List Ent) (hn : n = ks.length) (hfew : ks.length < 64) (hval : ∀ i v, Pv i v → ∃ p, ks[i]? = some p ∧ v = .ref p.1)
    (h0 : Heap) (hk : ∀ p ∈ ks, Is P w h0 p.2 p.1) (hS0 : h0.get? S = none) (hw0 : ∀ b ∈ wr, h0.get? b = none) (hu : A.in1.units < cLine) :
    ∀ (k i : Nat) (s : Shared), n - i = k → i ≤ n → St i s → (∀ b o, h0.get? b = some o → s.heap.get? b = some o) → (∃ L es ep t, At P w s.heap S L es ep t ∧ Of ks i L) →
      (∀ s' L es ep t, Moved (S :: wr) G s s' → At P w s'.heap S L es ep t → Of ks n L → (∀ b o, h0.get? b = some o → s'.heap.get? b = some o) → R (.ok (.ret .none)) s') →
      codeAny (model P w) A (.builtin "set.update.loop" ⟨[.ref S, .ref I], []⟩) R s := by
  have hSw : S ∉ wr := fun h => hSf (W.sub _ h)
  have hsub : ∀ b ∈ wr, b ∈ S :: wr := fun b hb => List.mem_cons_of_mem _ hb
  have keepM : ∀ {s s' : Shared}, Moved wr G s s' → (∀ b o, h0.get? b = some o → s.heap.get? b = some o) → ∀ b o, h0.get? b = some o → s'.heap.get? b = some o := fun hm hkp b o e =>
    hm.heap b o (fun hb => by rw [hw0 b hb] at e; cases e) (hkp b o e)
  intro k
  induction k with
  | zero =>
    intro i s hk' hi hst hkp ⟨L, es, ep, t, hS, g⟩ hR
    have hin : i = n := by omega
    subst hin
    refine codeAny_builtin F.entry_set_update_loop ?_
    rw [Around.under_plainId F.plain_set_update_loop _]
    show wpAny _ A.in1 (pyNext (.ref I) >>= _) _ _ s
    refine wpAny_bind (W.done s _ _ hst fun s' hm => ?_)
    show wpAny _ A.in1 (ret Value.none) _ _ s'
    exact wpAny_pure (hR s' L es ep t (hm.mono hsub) (hS.keep fun o e => hm.heap S o hSw e) g (keepM hm hkp))
  | succ k ih =>
    intro i s hk' hi hst hkp ⟨L, es, ep, t, hS, g⟩ hR
    have hlt : i < n := by omega
    refine codeAny_builtin F.entry_set_update_loop ?_
    rw [Around.under_plainId F.plain_set_update_loop _]
    show wpAny _ A.in1 (pyNext (.ref I) >>= _) _ _ s
    refine wpAny_bind (W.item i s _ _ hlt hst fun v s' hP hst' hm => ?_)
    obtain ⟨p, hp, rfl⟩ := hval i v hP
    have hkp' := keepM hm hkp
    have hS' : At P w s'.heap S L es ep t := hS.keep fun o e => hm.heap S o hSw e
    have T' : ∀ q ∈ L, Is P w s'.heap q.2 q.1 := fun q hq => (hk q (List.mem_of_mem_take (g.sub q hq))).keep hkp'
    have hx : Is P w s'.heap p.2 p.1 := (hk p (List.mem_of_getElem? hp)).keep hkp'
    show wpAny _ A.in1 (holding [Value.ref p.1] (setAdd S (.ref p.1)) >>= _) _ _ s'
    refine wpAny_bind (wpAny_holding ?_)
    unfold setAdd
    refine wpAny_holding ?_
    refine wpAny_bind (wpAny_pyHash_tuple hu hx ?_)
    refine add (s := { s' with toks := s'.toks + (p.2.length + 1) }) hS' T' hx hu (by have := g.len; omega) fun b h' L' es' ep' t' hsb hS2 c1 c2 => ?_
    have hkp2 : ∀ b o, h0.get? b = some o → h'.get? b = some o := fun b o e => (hsb.2 b (fun z => by rw [z, hS0] at e; cases e)).trans (hkp' b o e)
    refine wpAny_pure ⟨plainId_quiet F.plain_set_update_loop _, ih (i + 1) _ (by omega) hlt (W.frame _ s' _ _ hst' (Nat.le_add_right _ _) fun b hb o e => ?_) hkp2 ⟨L', es', ep', t', hS2, g.next hp c1 c2⟩ fun s'' L2 es2 ep2 t2 hm'' hS'' g'' hkp'' => ?_⟩
    · rw [hsb.2 b (fun h : b = S => hSf (by rw [← h]; exact hb))]; exact e
    · refine hR s'' L2 es2 ep2 t2 (Moved.trans W.gtrans ((hm.mono hsub).then_heap (Nat.le_add_right _ _) fun b o hb e => ?_) hm'') hS'' g'' hkp''
      rw [hsb.2 b (fun h : b = S => hb (by rw [h]; exact List.mem_cons_self))]; exact e
/-- set(xs) -/
theorem call_set {l : Addr} {items : Array Value} (ks : List Ent) {Q : Value → Shared → Prop} (hh : A.handled = none) (hl : s.heap.IsList l items) (hit : items.toList = ks.map fun p => Value.ref p.1) (hk : ∀ p ∈ ks, Is P w s.heap p.2 p.1) (hfew : ks.length < 64) (hu : A.units + 3 < cLine)
    (h : ∀ (h' : Heap) (tk : Nat) L es ep t, At P w h' s.heap.objs.size L es ep t → Of ks ks.length L → (∀ b o, s.heap.get? b = some o → h'.get? b = some o) → Q (.ref s.heap.objs.size) { s with heap := h', toks := tk }) :
    wpAny (model P w) A (call (.type "set") [.ref l]) Q E s := by
  have hisz : items.size = ks.length := by rw [← Array.length_toList, hit, List.length_map]
  obtain ⟨c, tl, hmro⟩ := F.called_set.mro
  have hmade := F.called_set.made
  have hsub := F.called_set.sub
  refine wpAny_call (codeAny_of_tree ?_)
  show wpAny _ _ (callAny (.type "set") _) _ _ _
  refine wpAny_pure ⟨Code.quiet_builtin _ (by decide +kernel), codeAny_builtin F.entry_type_call ?_⟩
  rw [Around.under_plain (weight_type_call_type "set" [.ref l] []) rfl]
  have h1 := F.called_set.notType
  have h2 := F.called_set.canCreate
  have hct := F.typeCall_set_1 (.ref l)
  repeat (any_goals (first | assumption | wp_step))
  refine codeAny_mono (code_set_led1 (.ref l) (E := E) (Q₁ := fun obj s₁ => obj = .ref s.heap.objs.size ∧ s₁ = { s with heap := s.heap.push (TS.newS w) }) ⟨rfl, rfl⟩) fun r s₁ hr => ?_
  cases r with
  | error e => exact hr
  | ok fl =>
  cases fl with
  | next => exact hr.elim
  | brk => exact hr.elim
  | cont => exact hr.elim
  | ret obj =>
  obtain ⟨rfl, rfl⟩ := hr
  have hS : (s.heap.push (TS.newS w)).get? s.heap.objs.size = some (TS.newS w) := Heap.get?_push_size _ rfl
  have hT : Shared.TypeIs { s with heap := s.heap.push (TS.newS w) } (.ref s.heap.objs.size) "set" := ⟨_, hS, rfl⟩
  have hli := F.called_set.init.lookup
  have hbi := F.called_set.init.bind (.ref s.heap.objs.size)
  repeat (any_goals (first | assumption | wp_step))
  refine codeAny_mono (codeAny_call_builtin (R := wants (fun r s₂ => r = .none ∧ ∃ h' tk L es ep t, s₂ = { s with heap := h', toks := tk } ∧ At P w h' s.heap.objs.size L es ep t ∧ Of ks ks.length L ∧
      (∀ b o, s.heap.get? b = some o → h'.get? b = some o)) E) F.called_set.init.plain F.entry_set_init (check_set_init_1 hT ?_)) fun r₂ s₂ hr₂ => ?_
  · obtain ⟨ol, hol, hcl, nl, hdl⟩ := hl
    obtain ⟨ocls, odict, odata, oslots⟩ := ol
    simp only at hcl hdl
    subst hcl; subst hdl
    have hol' : (s.heap.push (TS.newS w)).get? l = some { cls := .type "list", dict := odict, data := .seq items nl, slots := oslots } := Heap.get?_push_of_some _ hol
    have hsls := F.sub_list_set
    have hslf := F.sub_list_frozenset
    have hne : (Value.type "list" == Value.type "dict") = false := by decide
    have hl1 : (s.heap.push (TS.newS w)).IsList l items := ⟨_, hol', rfl, nl, rfl⟩
    have hlS : l < s.heap.objs.size := Heap.lt_size hol
    have hz1 : (s.heap.push (TS.newS w)).objs.size = s.heap.objs.size + 1 := Heap.size_push ..
    unfold Builtin.«set.__init__» noKeywords Builtin.Frozenset.updateFrom
    generalize hPI : pyIter = PI
    wp_walk
    subst hPI
    refine wpAny_pyIter_list hl1 (wpAny_bind (wpAny_runValue ?_))
    have hh3 : A.in1.in1.in1.handled = none := by simp [hh]
    have hneI : l ≠ (s.heap.push (TS.newS w)).objs.size := by rw [hz1]; exact Nat.ne_of_lt (Nat.lt_succ_of_lt hlS)
    have hSf : s.heap.objs.size ∉ [(s.heap.push (TS.newS w)).objs.size, l] := by
      rw [hz1]
      simp only [List.mem_cons, List.mem_singleton, List.not_mem_nil, or_false, not_or]
      exact ⟨Nat.ne_of_lt (Nat.lt_succ_self _), Nat.ne_of_gt hlS⟩
    have hval : ∀ (i : Nat) (v : Value), items[i]? = some v → ∃ p, ks[i]? = some p ∧ v = .ref p.1 := fun i v hv => by
      have q : items.toList[i]? = some v := by rw [Array.getElem?_toList]; exact hv
      rw [hit, List.getElem?_map] at q
      cases hq : ks[i]? with
      | none => rw [hq] at q; cases q
      | some p =>
        rw [hq] at q
        exact ⟨p, rfl, (Option.some.inj q).symm⟩
    have none_of : ∀ b, s.heap.objs.size ≤ b → s.heap.get? b = none := fun b hb => by
      cases q : s.heap.get? b with
      | none => rfl
      | some o => exact absurd (Nat.lt_of_lt_of_le (Heap.lt_size q) hb) (Nat.lt_irrefl _)
    refine fill ((Walks.list hh3 _ l hneI items).toS) s.heap.objs.size hSf ks hisz hfew hval s.heap hk (none_of _ (Nat.le_refl _)) (fun b hb => none_of b (by
        rw [List.mem_singleton.mp hb, hz1]
        exact Nat.le_succ _)) hu (items.size - 0) 0 _ (by omega) (Nat.zero_le _)
      ⟨⟨_, Heap.get?_push_size _ rfl, rfl, rfl⟩, (hl1.push _)⟩ (fun b o e => Heap.get?_push_of_some _ (Heap.get?_push_of_some _ e))
      ⟨[], #[], 0, _, at_new (Heap.get?_push_of_some _ hS), ⟨fun p hp => (by cases hp), fun p hp => (by simp at hp), Nat.le_refl _⟩⟩ fun s' L es ep t hm hS' g' hkp => ?_
    obtain ⟨h', g2, d', tk', os'⟩ := s'
    have eg : g2 = s.gens := hm.gens
    have ed : d' = s.drawn := hm.drawn
    have eo : os' = s.os := hm.os
    subst eg; subst ed; subst eo
    rw [hisz] at g'
    show wpAny _ _ _ _ _ _
    refine wpAny_pure ?_
    show wpAny _ _ (ret Value.none) _ _ _
    exact wpAny_pure ⟨rfl, h', tk', L, es, ep, t, rfl, hS', g', hkp⟩
  · cases r₂ with
    | error e => exact hr₂
    | ok fl₂ =>
      cases fl₂ with
      | ret r =>
        obtain ⟨rfl, h', tk, L, es, ep, t, rfl, hS', g', hk'⟩ := hr₂
        repeat (any_goals (first | assumption | wp_step))
        exact h _ _ _ _ _ _ hS' g' hk'
      | _ => exact hr₂.elim
end
end TT
end SW

set_option Elab.async false
set_option linter.all false
set_option maxRecDepth 100000
set_option maxHeartbeats 4000000
/-! sorted of a set of tuples of texts -/
namespace SW
open PySem PySem.Spec L2
open PyProof.Rows hiding St
theorem toks_inj : ∀ {xs ys : List Str}, PySem.W.keyToksAll (xs.map PyData.str) = PySem.W.keyToksAll (ys.map PyData.str) → xs = ys
  | [], [], _ => rfl
  | [], y :: ys, h => by simp [PySem.W.keyToksAll] at h
  | x :: xs, [], h => by simp [PySem.W.keyToksAll] at h
  | x :: xs, y :: ys, h => by
    simp only [List.map_cons, PySem.W.keyToksAll, PySem.W.keyToks, List.cons_append, List.nil_append, List.cons.injEq, Sum.inr.injEq, true_and] at h
    rw [PySem.W.str_of_cps h.1, toks_inj h.2]
theorem encT_inj {k k' : List Str} (h : PySem.W.keyToks (encT k) = PySem.W.keyToks (encT k')) : k = k' := by
  unfold encT at h
  rw [PySem.W.keyToks, PySem.W.keyToks] at h
  exact toks_inj h
theorem le_trans' (a b c : D) (h1 : PySem.W.dataLe false id a b = true) (h2 : PySem.W.dataLe false id b c = true) : PySem.W.dataLe false id a c = true := by
  rw [PySem.W.dataLe_eq] at h1 h2 ⊢
  simp only [id, cond_false, Bool.not_eq_true'] at h1 h2 ⊢
  cases h : PySem.W.dataLt c a with
  | false => rfl
  | true =>
    unfold PySem.W.dataLt at h h1 h2
    rcases PyProof.Rows.lex_negTrans _ (PySem.W.keyToks b) _ h with q | q
    · rw [q] at h2; cases h2
    · rw [q] at h1; cases h1
theorem lt_asym' (a b : D) (h : PySem.W.dataLt a b = true) : PySem.W.dataLt b a = false := by
  cases q : PySem.W.dataLt b a with
  | false => rfl
  | true =>
    unfold PySem.W.dataLt at h q
    have z := PyProof.Rows.lex_trans _ _ _ h q
    rw [PyProof.Rows.lex_irrefl] at z
    cases z
theorem le_total' (a b : D) : (PySem.W.dataLe false id a b || PySem.W.dataLe false id b a) = true := by
  rw [PySem.W.dataLe_eq]
  simp only [id, cond_false]
  cases h : PySem.W.dataLt a b with
  | true => rw [lt_asym' _ _ h]; rfl
  | false => cases PySem.W.dataLt b a <;> rfl
theorem le_anti' {a b : D} (h1 : PySem.W.dataLe false id a b = true) (h2 : PySem.W.dataLe false id b a = true) : PySem.W.keyToks a = PySem.W.keyToks b := by
  rw [PySem.W.dataLe_eq] at h1 h2
  simp only [id, cond_false, Bool.not_eq_true'] at h1 h2
  exact PyProof.Rows.lex_total _ _ h2 h1
/-- one order alone -/
theorem sort_perm {xs ys : List D} (hp : xs.Perm ys) (hi : ∀ a ∈ xs, ∀ b ∈ xs, PySem.W.keyToks a = PySem.W.keyToks b → a = b) : xs.mergeSort (PySem.W.dataLe false id) = ys.mergeSort (PySem.W.dataLe false id) := by
  have p1 := List.mergeSort_perm xs (PySem.W.dataLe false id)
  have p2 := List.mergeSort_perm ys (PySem.W.dataLe false id)
  refine List.Perm.eq_of_pairwise (fun a b ha hb h1 h2 => ?_) (List.pairwise_mergeSort le_trans' le_total' xs) (List.pairwise_mergeSort le_trans' le_total' ys) (p1.trans (hp.trans p2.symm))
  exact hi a (p1.mem_iff.mp ha) b (hp.mem_iff.mpr (p2.mem_iff.mp hb)) (le_anti' h1 h2)
theorem mem_nubT : ∀ (l : List (List Str)) (k : List Str), k ∈ nubT l ↔ k ∈ l
  | [], k => by simp
  | x :: r, k => by
    have ih := mem_nubT r k
    simp only [nubT]
    split
    · rename_i h
      rw [ih, List.mem_cons]
      exact ⟨.inr, fun q => q.elim (fun e => e ▸ h) id⟩
    · rw [List.mem_cons, List.mem_cons, ih]
theorem nodup_nubT : ∀ l : List (List Str), (nubT l).Nodup
  | [] => .nil
  | x :: r => by
    simp only [nubT]
    split
    · exact nodup_nubT r
    · rename_i h
      exact List.nodup_cons.mpr ⟨fun q => h ((mem_nubT r x).mp q), nodup_nubT r⟩
theorem perm_map_inv {α β : Type} {f : α → β} : ∀ {vs ws : List β}, ws.Perm vs → ∀ {L : List α}, ws = L.map f → ∃ L1 : List α, vs = L1.map f ∧ L1.Perm L := by
  intro vs ws h
  induction h with
  | nil => intro L e; exact ⟨L, e, .refl _⟩
  | @cons x l1 l2 _ ih =>
    intro L e
    cases L with
    | nil => cases e
    | cons y L =>
      rw [List.map_cons] at e
      injection e with e1 e2
      obtain ⟨L1, h1, h2⟩ := ih e2
      exact ⟨y :: L1, by rw [e1, h1]; rfl, h2.cons y⟩
  | swap x y l =>
    intro L e
    match L, e with
    | u :: v :: L, e =>
      rw [List.map_cons, List.map_cons] at e
      injection e with e1 e2
      injection e2 with e2 e3
      exact ⟨v :: u :: L, by rw [e1, e2, e3]; rfl, .swap ..⟩
  | trans _ _ ih1 ih2 =>
    intro L e
    obtain ⟨L1, h1, h2⟩ := ih1 e
    obtain ⟨L2, h3, h4⟩ := ih2 h1
    exact ⟨L2, h3, h4.trans h2⟩
namespace TT
theorem texts_reads {P : Program} {w : World} {h : Heap} : ∀ {k : List Str} {vs : List Value}, ItemsAre (strKind P w) k vs → ReadsAll h vs (k.map PyData.str) []
  | _, _, .nil => .nil
  | _, _, .cons h1 t => by
    obtain ⟨tk, rfl⟩ := Value.isStrOf_shape h1
    exact .cons (as := []) (bs := []) (.str _ _) (texts_reads t)
theorem Is.reads {P : Program} {w : World} {h : Heap} {k : List Str} {b : Addr} (x : Is P w h k b) : Reads h (.ref b) (encT k) [] := by
  obtain ⟨o, items, n, ho, hc, hd, hi⟩ := x
  exact .tuple ho hc hd (texts_reads hi)
theorem alike_texts : ∀ k k' : List Str, PySem.W.alikeAll (k.map PyData.str) (k'.map PyData.str) = true
  | [], k' => by rw [List.map_nil, PySem.W.alikeAll]
  | x :: k, [] => by rw [List.map_cons, List.map_nil, PySem.W.alikeAll]
  | x :: k, y :: k' => by rw [List.map_cons, List.map_cons, PySem.W.alikeAll, alike_texts k k', PySem.W.alike]; rfl
theorem depth_texts : ∀ k : List Str, PyData.depthAll (k.map PyData.str) = 0
  | [] => by rw [List.map_nil, PyData.depthAll]
  | x :: k => by rw [List.map_cons, PyData.depthAll, depth_texts k, PyData.depth]; rfl
section
variable {P : Program} {w : World} {A : Around} {E : Value → Shared → Prop} {s : Shared} {a : Addr} {L : List Ent} {es : Array (Int × Value)} {ep : Nat} {t : SetTable}
theorem call_sorted (R : At P w s.heap a L es ep t) (T : ∀ p ∈ L, Is P w s.heap p.2 p.1) (ne : ∀ p ∈ L, p.2 ≠ []) (hh : A.handled = none) (hu : A.units + 65 < cLine) {Q : Value → Shared → Prop}
    (hQ : ∀ s' p (out : Array Value) (c : Nat) (L' : List Ent), (∀ b o, s.heap.get? b = some o → s'.heap.get? b = some o) → s'.gens = s.gens → s'.os = s.os → s.heap.objs.size ≤ p → s'.heap.get? p = some (seqObj "list" out c) →
      out.toList = L'.map (fun q => Value.ref q.1) → L'.Perm L → L'.map (fun q => encT q.2) = (L.map fun q => encT q.2).mergeSort (PySem.W.dataLe false id) → Q (.ref p) s') :
    wpAny (model P w) A (call (.builtin "sorted") [.ref a]) Q E s := by
  obtain ⟨o, ho, hex, hd⟩ := R.ob
  have hsz := R.size
  have hfew := R.few
  refine Calls.call_function_entry kind_sorted plain_sorted entry_sorted (args_sorted1 _) ?_
  unfold Builtin.«sorted»
  refine wpAny_bind (m := checkCount "sorted" 1 1 _) (wpAny_pure ?_)
  refine wpAny_bind (collect_set (A := A.in1) hh ⟨o, ho, hex.1, hd⟩ R.fits (by unfold scanBound; omega) R.tab.ris R.led fun s1 vs k1 hz g1 o1 pm => ?_)
  have hes : es.toList.map (·.2) = L.map fun q => Value.ref q.1 := by
    rw [R.rows, List.map_map]; rfl
  rw [hes] at pm
  obtain ⟨L1, rfl, pL⟩ := perm_map_inv pm.symm rfl
  have hl1 : L1.length < 64 := by rw [pL.length_eq]; exact hfew
  refine wpAny_bind (wpAny_newList ?_ (by rw [List.length_map, sizeLine_eq]; omega))
  have hoL : (s1.heap.push (seqObj "list" (L1.map fun q => Value.ref q.1).toArray 0)).get? s1.heap.objs.size = some (seqObj "list" (L1.map fun q => Value.ref q.1).toArray 0) := Heap.get?_push_size _ rfl
  have tk : ∀ q ∈ L1, Is P w (s1.heap.push (seqObj "list" (L1.map fun q => Value.ref q.1).toArray 0)) q.2 q.1 := fun q hq => (T q (pL.mem_iff.mp hq)).keep fun b u e => Heap.get?_push_of_some _ (k1 b u e)
  have each : ∀ (M : List Ent) {Rr : Value → Ent → Prop}, (∀ q ∈ M, Rr (.ref q.1) q) → PySem.W.EachIs Rr (M.map fun q => Value.ref q.1) M := by
    intro M
    induction M with
    | nil => intro _ _; exact .nil
    | cons q M ih => intro Rr h; exact .cons (h q (by simp)) (ih fun r hr => h r (by simp [hr]))
  refine wpAny_bind (wpAny_holding (PySem.W.list_sort_data (s := { s1 with heap := s1.heap.push (seqObj "list" (L1.map fun q => Value.ref q.1).toArray 0) }) (bs := L1) (enc := fun q => encT q.2) (R := fun v q => v = Value.ref q.1) hoL (each L1 fun _ _ => rfl)
    (each L1 fun q hq => ⟨[], (tk q hq).reads, by simp⟩) ?_ ?_ (by rw [sizeLine_eq]; omega) ?_ fun out ho he => ?_))
  · intro d hd d' hd'
    obtain ⟨q, _, rfl⟩ := List.mem_map.mp hd
    obtain ⟨r, _, rfl⟩ := List.mem_map.mp hd'
    show PySem.W.alike (.tuple _) (.tuple _) = true
    rw [PySem.W.alike]
    exact alike_texts _ _
  · refine .inl fun d hd => ?_
    obtain ⟨q, hq, rfl⟩ := List.mem_map.mp hd
    have z := ne q (pL.mem_iff.mp hq)
    show ∃ x r, PyData.tuple (q.2.map PyData.str) = _
    cases e : q.2 with
    | nil => exact absurd e z
    | cons x k => exact ⟨_, _, rfl⟩
  · intro q hq
    have e : (encT q.2).depth ≤ 1 := by
      show (PyData.tuple (q.2.map PyData.str)).depth ≤ 1
      rw [PyData.depth, depth_texts]
      omega
    show A.in1.units + 1 + (encT q.2).depth < cLine
    simp only [Around.in1_units]
    omega
  · have out_of : ∀ {us : List Value} {M : List Ent}, PySem.W.EachIs (fun v q => v = Value.ref q.1) us M → us = M.map fun q => Value.ref q.1 := by
      intro us M h
      induction h with
      | nil => rfl
      | cons h _ ih => rw [List.map_cons, ← h, ← ih]
    have eo := out_of he
    obtain ⟨c, hc⟩ := sortedHeap_at (vs := L1.map fun q => Value.ref q.1) (out := List.toArray out) hoL
    have pm2 : (L1.mergeSort (PySem.W.dataLe false fun q : Ent => encT q.2)).Perm L := (List.mergeSort_perm _ _).trans pL
    have ef : (L1.mergeSort (PySem.W.dataLe false fun q : Ent => encT q.2)).map (fun q => encT q.2) = (L.map fun q => encT q.2).mergeSort (PySem.W.dataLe false id) := by
      have z := List.map_mergeSort (r := PySem.W.dataLe false (fun q : Ent => encT q.2)) (s := PySem.W.dataLe false (id : D → D)) (f := fun q : Ent => encT q.2) (l := L1) fun a _ b _ => rfl
      rw [z]
      refine sort_perm (pL.map _) fun x hx y hy e => ?_
      obtain ⟨q, _, rfl⟩ := List.mem_map.mp hx
      obtain ⟨r, _, rfl⟩ := List.mem_map.mp hy
      rw [encT_inj e]
    refine wpAny_pure ⟨_, rfl, hQ _ s1.heap.objs.size (List.toArray out) c _ (fun b u e => ?_) g1 o1 hz hc (by simpa using eo) pm2 ef⟩
    have q := k1 b u e
    have hlt := Heap.lt_size q
    show (sortedHeap (s1.heap.push (seqObj "list" (L1.map fun q => Value.ref q.1).toArray 0)) s1.heap.objs.size _ _).get? b = some u
    rw [sortedHeap_old (Nat.ne_of_lt hlt) (by rw [size_push']; exact Nat.lt_succ_of_lt hlt)]
    exact Heap.get?_push_of_some _ q
end
end TT
end SW

set_option Elab.async false
set_option linter.all false
set_option maxRecDepth 100000
set_option maxHeartbeats 4000000
/-! sorted(set(xs)) -/
namespace SW
open PySem PySem.Spec L2
open PyProof.Rows hiding St
/-- the set of texts at a -/
def SetT (w : World) (a : Addr) (S : Str → Bool) (n : Nat) : HO := .ext fun h => TS.At w h a S n
theorem setT_new {w : World} {P : Program} {H : Hp} {h : Heap} {a : Addr} {S : Str → Bool} {n : Nat} (R : TS.At w h a S n) : ObjOk P w H h a (SetT w a S n) := by
  have ⟨o, _, _, _, ho, _⟩ := R.ex
  exact ⟨R, ⟨o, ho⟩, fun h1 h2 p k => TS.At.keep p k⟩
def rSetT (K : PySem.W.Frag) (w : World) : List V → Hp → VK → Prop := fun vs H Q => ∃ (a : Addr) (xs : List Str), vs = [V.ref a] ∧ SqL K H a (xs.map V.str) ∧ xs.length < 64 ∧
  ∀ p c, H p = none → c ≤ xs.length → Q (.ref p) (upd H p (SetT w p (fun j => decide (j ∈ xs)) c))
def rSortedT (w : World) : List V → Hp → VK → Prop := fun vs H Q => ∃ (a : Addr) (S : Str → Bool) (n : Nat), vs = [V.ref a] ∧ H a = some (SetT w a S n) ∧ n < 64 ∧
  ∀ (ys : List Str) (p : Addr), ys.Nodup → sortedS ys = true → (∀ k : Str, k ∈ ys ↔ S k = true) → ys.length ≤ n → H p = none → Q (.ref p) (upd H p (.lst (ys.map V.str)))
section
variable {X : Cx}
theorem cr_setT (hc : X.calm = true) : CallR X (.type "set") (rSetT X.K X.w) := by
  intro pins s σ H vs us Q I r h
  obtain ⟨a, xs, rfl, hs, h64, q⟩ := h
  rw [Vals.ref1 r]
  obtain ⟨its, rv, pl, hz⟩ := I.list hs
  refine TS.call_set xs (I.ok.hd hc) pl.isList (by simpa using strsAre_of rv) (by unfold scanBound; omega) fun h' tk c hA hc' hk => ?_
  have hn : H s.heap.objs.size = none := I.hok.fresh (Nat.le_refl _)
  exact ⟨.ref _, upd H s.heap.objs.size (SetT X.w s.heap.objs.size (fun j => decide (j ∈ xs)) c), I.laid (t' := tk) hk (Nat.le_refl _) (setT_new hA), rfl, q _ c hn hc'⟩
theorem cr_sortedT (hc : X.calm = true) : CallR X (.builtin "sorted") (rSortedT X.w) := by
  intro pins s σ H vs us Q I r h
  obtain ⟨a, S, n, rfl, ha, h64, q⟩ := h
  have R : TS.At X.w s.heap a S n := (I.hok a _ ha).1
  rw [Vals.ref1 r]
  refine TS.call_sorted R (I.ok.hd hc) h64 fun s' p out c ys k g o hp hg hi nd hs hm hl => ?_
  have hlen : (ys.map V.str).length ≤ sizeLine := by rw [List.length_map, sizeLine_eq]; omega
  have hn : H p = none := I.hok.fresh hp
  have J : Inv X pins σ (upd H p (.lst (ys.map V.str))) { s with heap := s'.heap, gens := s'.gens, drawn := s'.drawn, toks := s'.toks } :=
    I.call (ch := []) (Un.laid k hp hn) (I.hok.laid k hp ⟨hlen, out.toList, c, vals_of_strs hi, hg⟩) (by rw [g]; exact I.bare) (fun _ z => nomatch z)
  have e : s' = { s with heap := s'.heap, gens := s'.gens, drawn := s'.drawn, toks := s'.toks } := by
    cases s'
    cases s
    cases o
    rfl
  rw [e]
  exact ⟨.ref p, _, J, rfl, q ys p nd hs hm hl hn⟩
end
end SW

set_option Elab.async false
set_option linter.all false
set_option maxRecDepth 100000
set_option maxHeartbeats 4000000
/-! dict(d), list(d), list(d.items()), xs[::-1], sorted(set(xs)) -/
namespace SW
open PySem PySem.Spec L2
open PyProof.Rows hiding St
theorem rd_key {P : Hp} (q : Key) : RD P (keyD q) (kV q) := by
  cases q with
  | inl i => exact rd_int
  | inr x => exact rd_str
theorem rk_keys {P : Hp} : ∀ {kvs : List (D × D)} {ks : List (Key × V)}, RK P kvs ks → RDs P (kvs.map (·.1)) (ks.map fun q => kV q.1)
  | [], _, h => by rw [show _ = [] from h]; exact .nil
  | (k, d) :: r, _, h => by
    obtain ⟨q, v, t, rfl, rfl, h1, h2⟩ := h
    exact .cons (rd_key q) (rk_keys h2)
section
variable {X : Cx} {pins : List (Addr × Obj)} {σ : St} {H : Hp} {s : Shared} {a : Addr} {ks : List (Key × V)}
theorem call_dictM : CallR X (.type "dict") (fun xs H Q => ∃ (a : Addr) (ks : List (Key × V)), xs = [.ref a] ∧ Dm H a ks ∧ ∀ p, H p = none → Q (.ref p) (upd H p (.dK ks))) := by
  intro pins s σ H xs us Q I r q
  obtain ⟨a, ks, rfl, hd, q⟩ := q
  rw [Vals.ref1 r]
  obtain ⟨z, lo, vs, rel, dd⟩ := dm_at I hd
  refine kt_call_dict lo dd (by rw [← rel.length]; exact z) fun h' d' hs => ?_
  have hm : (s.heap.objs.size == sysModules) = false := beq_eq_false_iff_ne.mpr (Nat.ne_of_gt I.big)
  have hn : H s.heap.objs.size = none := I.hok.fresh (Nat.le_refl _)
  refine ⟨.ref s.heap.objs.size, upd H s.heap.objs.size (.dK ks), I.laid (t' := s.toks) (fun b u e => (hs.2 b (Nat.ne_of_lt (Heap.lt_size e))).trans (Heap.get?_push_of_some _ e)) (Nat.le_refl _) ?_, rfl, q _ hn⟩
  show ObjOk X.prog X.w _ _ _ (.dK ks)
  exact ⟨z, hm, vs, rel, d'⟩
theorem call_listM (hcalm : X.calm = true) : CallR X (.type "list") (fun xs H Q => ∃ (a : Addr) (ks : List (Key × V)), xs = [.ref a] ∧ Dm H a ks ∧ ∀ p, H p = none → Q (.ref p) (upd H p (.lst (ks.map fun q => kV q.1)))) := by
  intro pins s σ H xs us Q I r q
  obtain ⟨a, ks, rfl, hd, q⟩ := q
  rw [Vals.ref1 r]
  obtain ⟨z, lo, vs, rel, dd⟩ := dm_at I hd
  obtain ⟨ep, hat⟩ := dd.dictAt
  have ek : (ks.map fun q => kV q.1) = vs.map fun p => kV p.1 := by
    have e := congrArg (List.map kV) rel.keys
    rwa [List.map_map, List.map_map] at e
  refine PySem.W.kdl_call (PySem.W.kdl_dict (knd := mixKind X.prog X.w) (kvs := vs) (ep := ep) lo) (I.ok.hd hcalm) hat (by rw [← rel.length]; exact z) fun h' tk acc c' hk hD hacc => ?_
  have hv : Vals (vs.map fun p => kV p.1) acc.toList := keys_at (by rw [Array.length_toList]; exact hacc.1) fun j v e => hacc.2 j v (by rw [← Array.getElem?_toList]; exact e)
  have hn : H s.heap.objs.size = none := I.hok.fresh (Nat.le_refl _)
  refine ⟨.ref s.heap.objs.size, upd H s.heap.objs.size (.lst (ks.map fun q => kV q.1)), I.laid (t' := tk) hk (Nat.le_refl _) ?_, rfl, q _ hn⟩
  show ObjOk X.prog X.w _ _ _ (.lst (ks.map fun q => kV q.1))
  exact ⟨by rw [List.length_map]; exact z, acc.toList, c', by rw [ek]; exact hv, by rw [Array.toArray_toList]; exact hD⟩
def rItm : V → Hp → VK → Prop := fun x H Q => ∃ (d : Addr) (ks : List (Key × V)), x = .ref d ∧ Dm H d ks ∧
  ∀ (H' : Hp) (p : Addr) (ts : List Addr), (∀ b o, H b = some o → H' b = some o) → H p = none → (∀ t ∈ ts, H t = none) → p ∉ ts → H' p = some (.lst (ts.map V.ref)) → Paired (fun (t : Addr) (q : Key × V) => H' t = some (.tup [kV q.1, q.2])) ts ks → Q (.ref p) H'
def tItm (te : TE) : TE := fun σ H Q => te σ H fun x H1 => rItm x H1 Q
theorem pe_itm {e : Expr} {te : TE} {p apos cpos pos : Pos} (hc : X.calm = true) (he : PE X e te) (hg : Gl X "list") (hm : X.mg "list" = none) (hb : plainBase e = true) (hline : (apos.endLine == cpos.line) = true) :
    PE X (.Call (.Name "list" p) [.Call (.Attribute e "items" apos) [] [] cpos] [] pos) (tItm te) := by
  refine ⟨fun pins s σ H Q I hq => ?_⟩
  refine wpAny_Call_Name_kw (ld_blt I hg hm PyProof.Rows.Boot.«list» (PyProof.Rows.callWith_type1 ?_ (star_cons rfl) rfl))
  rw [star_cons (e := .Call (.Attribute e "items" apos) [] [] cpos) (es := []) rfl]
  show wpAny _ _ (spliced ((false, eval (.Call (.Attribute e "items" apos) [] [] cpos) X.env) :: backTo pos (starEach [] X.env))) _ _ s
  refine Calls.spliced_cons ?_
  refine wpAny_Call_method (T := "dict") (id := "dict.items") (base_plain hb) rfl hline F.plainAttrs_dict F.slot_dict_items F.type_dict_items (thn (he.run pins s σ H _ I hq) fun u s1 ⟨x, H1, I1, rx, d, ks, ex, hd, q⟩ => ?_)
  subst ex
  obtain rfl : u = Value.ref d := rx
  obtain ⟨hz, hs0, vs, kv, hdo⟩ := dm_at I1 hd
  obtain ⟨ep, hat⟩ := hdo.dictAt
  have lk : ks.length = vs.length := Paired.length kv
  have I2 : Inv X pins σ H1 { s1 with heap := s1.heap.push { cls := .type "dict_items", data := .fields #[.ref d] } } := I1.kept (t' := s1.toks) fun b ob q => Heap.get?_push_of_some _ q
  refine ⟨hdo.typeIs, hdo.mapOf.noDict, ?_⟩
  show wpAny _ _ (callWith cpos (.builtin "dict.items") [.ref d] [] []) _ X.xe s1
  refine method_meetsIn F.slot_dict_items F.entry_dict_items rfl (PySem.evalArgs_none ⟨rfl, hdo.typeIs, F.args_dict_items_1 _, _, meets_dict_items (mixKind X.prog X.w) d hs0, ⟨vs, hdo⟩, Calls.spliced_nil ?_⟩)
  refine PySem.W.kdx_call (knd := mixKind X.prog X.w) (kvs := vs) (ep := ep) (I1.ok.hd hc) ⟨_, Heap.get?_push_size _ rfl, rfl, rfl⟩ (hat.push _) (by omega) fun h' tk acc c as hk hS hl hG hacc => ?_
  obtain ⟨H', k1, k2, k3, k4, k5, k6, J⟩ := LiI.items_laid (tk := tk) I2 hz kv hk hS hl hG hacc
  exact ⟨.ref _, H', J, rfl, q H' _ as k1 k2 k3 k4 k5 k6⟩
end
end SW

set_option Elab.async false
set_option linter.all false
set_option maxRecDepth 100000
set_option maxHeartbeats 4000000
/-! the readings of dict(d), list(d), list(d.items()), xs[::-1], sorted(set(xs)) -/
namespace SW
open PySem PySem.Spec L2
open PyProof.Rows hiding St
theorem RDs.reverse {P : Hp} : ∀ {ds : List D} {vs : List V}, RDs P ds vs → RDs P ds.reverse vs.reverse
  | [], _, h => by rw [h.nil_inv]; exact .nil
  | d :: ds, _, h => by
    obtain ⟨v, r, rfl, h1, h2⟩ := h.inv
    rw [List.reverse_cons, List.reverse_cons]
    exact RDs.append (RDs.reverse h2) (.cons h1 .nil)
section
variable {X : Cx} {Wx : Wish}
theorem cr_list (hc : X.calm = true) : CallR X (.type "list") (rB1 Wx (fBlt .list)) := by
  intro pins s σ0 H xs us Q I rs h
  obtain ⟨x, rfl, P, σ, ρ, A, d, ok, vd, out⟩ := h
  by_cases q : ∃ kvs, d = .dict kvs
  · obtain ⟨kvs, rfl⟩ := q
    have out : Out Wx RA σ P H A (rO (if (kvs.all fun p => isKey1 p.1) = true then some (.lst (kvs.map (·.1))) else none) ρ) Q := out
    split at out
    case isFalse => exact out.elim
    rename_i hk
    obtain ⟨a, ks, rfl, hd, rk⟩ := dm_of vd hk
    exact call_listM hc pins s σ0 H _ us Q I rs ⟨a, ks, rfl, hd, fun p hp => Out.lst out ok hp (rk_keys rk)⟩
  · exact cr_list0 pins s σ0 H _ us Q I rs ⟨x, rfl, P, σ, ρ, A, d, ok, vd, out, fun kvs e => q ⟨kvs, e⟩⟩
theorem cr_dict (hu : X.A.units + 65 < cLine) (hc : X.calm = true) : CallR X (.type "dict") (rB1 Wx (fBlt .dict)) := by
  intro pins s σ0 H xs us Q I rs h
  obtain ⟨x, rfl, P, σ, ρ, A, d, ok, vd, out⟩ := h
  by_cases q : ∃ kvs, d = .dict kvs
  · obtain ⟨kvs, rfl⟩ := q
    have out : Out Wx RA σ P H A (rO (if (kvs.all fun p => isKey1 p.1) = true then some (.dct kvs) else none) ρ) Q := out
    split at out
    case isFalse => exact out.elim
    rename_i hk
    obtain ⟨a, ks, rfl, hd, rk⟩ := dm_of vd hk
    exact call_dictM pins s σ0 H _ us Q I rs ⟨a, ks, rfl, hd, fun p hp => Out.dK out ok hp rk⟩
  · exact cr_dict0 hu hc pins s σ0 H _ us Q I rs ⟨x, rfl, P, σ, ρ, A, d, ok, vd, out, fun kvs e => q ⟨kvs, e⟩⟩
end
theorem mem_nubS : ∀ (l : List Str) (k : Str), k ∈ nubS l ↔ k ∈ l
  | [], k => by simp
  | x :: r, k => by
    have ih := mem_nubS r k
    simp only [nubS]
    split
    · rename_i h
      rw [ih, List.mem_cons]
      exact ⟨.inr, fun q => q.elim (fun e => e ▸ h) id⟩
    · rw [List.mem_cons, List.mem_cons, ih]
theorem nodup_nubS : ∀ l : List Str, (nubS l).Nodup
  | [] => .nil
  | x :: r => by
    simp only [nubS]
    split
    · exact nodup_nubS r
    · rename_i h
      exact List.nodup_cons.mpr ⟨fun q => h ((mem_nubS r x).mp q), nodup_nubS r⟩
theorem sorted_nub {xs ys : List Str} (nd : ys.Nodup) (hs : PyProof.Rows.sortedS ys = true) (hm : ∀ k : Str, k ∈ ys ↔ k ∈ xs) : ys = sortS (nubS xs) :=
  sortS_eq ((List.perm_ext_iff_of_nodup nd (nodup_nubS xs)).mpr fun k => (hm k).trans (mem_nubS xs k).symm) hs
section
variable {X : Cx} {Wx : Wish} {σ : St} {H : Hp} {Q : VK} {g : Rho → R SW.A}
theorem im_rev (h : tE Wx (fun ρ => kLook (fUn .rev) (g ρ)) σ H Q) : tRevL X.K (tE Wx g) σ H Q :=
  im_look h fun P1 H1 ρ1 A1 d v o1 vd out => by
    unfold fUn at out
    cases d with
    | list ds =>
      have out : Out Wx RA σ P1 H1 A1 (.ok (.vl (.lst ds.reverse)) ρ1) Q := out
      obtain ⟨a, vs, rfl, h1, h2⟩ := vd
      exact ⟨a, vs, rfl, .inl h1, fun p hp => Out.lst out o1 hp h2.reverse⟩
    | _ => exact out.elim
theorem rk_tups {P P' H' : Hp} (k : Keep P P') : ∀ {kvs : List (D × D)} {ks : List (Key × V)} {ts : List Addr}, RK P kvs ks → Paired (fun (t : Addr) (q : Key × V) => P' t = some (.tup [kV q.1, q.2])) ts ks →
    RDs P' (kvs.map fun p => .tuple [p.1, p.2]) (ts.map V.ref)
  | [], _, _, h, hp => by
    rw [show _ = [] from h] at hp
    cases hp
    exact .nil
  | (kk, d) :: r, _, _, h, hp => by
    obtain ⟨q, v, t, rfl, rfl, h1, h2⟩ := h
    cases hp with
    | cons a b =>
      refine .cons ?_ (rk_tups (H' := H') k h2 b)
      rw [RD]
      exact ⟨_, _, rfl, a, .cons (rd_key q) (.cons (RD.keep k _ _ h1) .nil)⟩
theorem paired_weak {α β : Type} {R S : α → β → Prop} : ∀ {xs : List α} {ys : List β}, (∀ x ∈ xs, ∀ y, R x y → S x y) → Paired R xs ys → Paired S xs ys
  | [], _, _, h => by cases h; exact .nil
  | x :: xs, _, q, h => by
    cases h with
    | cons a b => exact .cons (q x (by simp) _ a) (paired_weak (fun z hz => q z (by simp [hz])) b)
theorem im_itms (h : tE Wx (fun ρ => kLook (fUn .itms) (g ρ)) σ H Q) : tItm (tE Wx g) σ H Q :=
  im_look h fun P1 H1 ρ1 A1 d v o1 vd out => by
    unfold fUn at out
    cases d with
    | dict kvs =>
      have out : Out Wx RA σ P1 H1 A1 (rO (if (kvs.all fun p => isKey1 p.1) = true then some (.lst (kvs.map fun p => .tuple [p.1, p.2])) else none) ρ1) Q := out
      split at out
      case isFalse => exact out.elim
      rename_i hk
      obtain ⟨a, ks, rfl, hd, rk⟩ := dm_of vd hk
      refine ⟨a, ks, rfl, hd, fun H' p ts hle hp hts hpt hH pr => ?_⟩
      have out : Out Wx RA σ P1 H1 A1 (.ok (.vl (.lst (kvs.map fun p => .tuple [p.1, p.2]))) ρ1) Q := out
      let P' : Hp := fun a => if a ∈ ts then H' a else P1 a
      have hPt : ∀ t ∈ ts, P1 t = none := fun t ht => by
        cases e : P1 t with
        | none => rfl
        | some u => have := o1.sub t u e; rw [hts t ht] at this; cases this
      have le : ∀ a o, P1 a = some o → P' a = some o := fun a o e => by
        have : a ∉ ts := fun q => by rw [hPt a q] at e; cases e
        show (if a ∈ ts then H' a else P1 a) = some o
        rw [if_neg this]; exact e
      have x0 : Ext [] P1 H1 P' H' := ⟨.of_le le, fun a u e _ _ => hle a u e, fun a q => by
          by_cases w : a ∈ ts
          · exact .inr (.inr (hts a w))
          · refine .inl fun z => q ?_
            show (if a ∈ ts then H' a else P1 a) = none
            rw [if_neg w]; exact z, fun a q => by
          cases e : H1 a with
          | none => exact absurd e q
          | some u => rw [hle a u e]; simp⟩
      have sub' : ∀ a o, P' a = some o → H' a = some o := fun a o e => by
        have e : (if a ∈ ts then H' a else P1 a) = some o := e
        split at e
        · exact e
        · exact hle a o (o1.sub a o e)
      have o2 : Ok P' H' σ ρ1 A1 := o1.ext x0 sub' fun _ _ => List.not_mem_nil
      have hpP : P' p = none := by
        show (if p ∈ ts then H' p else P1 p) = none
        rw [if_neg hpt]; exact o1.noneP hp
      refine out P' H' A1 [p] (.ref p) (x0.mono fun _ q => nomatch q) o2 ⟨p, _, rfl, rfl, hH, hpP, ?_⟩ ?_ fun a ha => ?_
      · refine rk_tups (H' := H') (.of_le le) rk (paired_weak (fun t ht q e => ?_) pr)
        show (if t ∈ ts then H' t else P1 t) = _
        rw [if_pos ht]; exact e
      · refine List.nodup_append.mpr ⟨o1.nd, by simp, fun a ha b hb e => ?_⟩
        subst e
        obtain rfl : a = p := by simpa using hb
        exact o1.fresh hp ha
      · rcases List.mem_append.mp ha with q | q
        · exact .inl q
        · obtain rfl : a = p := by simpa using q
          exact .inr hp
    | _ => exact out.elim
end
end SW

set_option Elab.async false
set_option linter.all false
set_option maxRecDepth 100000
set_option maxHeartbeats 4000000
/-! sorted(set(xs)): texts, tuples of texts -/
namespace SW
open PySem PySem.Spec L2
open PyProof.Rows hiding St
namespace TT
/-- the set of tuples of texts at a -/
def SetH (P : Program) (w : World) (a : Addr) (L : List Ent) : HO := .ext fun h => ∃ es ep t, At P w h a L es ep t
theorem setH_new {P : Program} {w : World} {H : Hp} {h : Heap} {a : Addr} {L : List Ent} {es : Array (Int × Value)} {ep : Nat} {t : SetTable} (R : At P w h a L es ep t) : ObjOk P w H h a (SetH P w a L) := by
  have ⟨o, ho, _⟩ := R.ob
  exact ⟨⟨es, ep, t, R⟩, ⟨o, ho⟩, fun h1 h2 ⟨es, ep, t, p⟩ k => ⟨es, ep, t, p.keep k⟩⟩
theorem items_of {P : Program} {w : World} : ∀ {k : List Str} {us : List Value}, Vals (k.map V.str) us → ItemsAre (strKind P w) k us
  | [], _, .nil => .nil
  | n :: k, _, .cons r t => by
    obtain ⟨tk, rfl⟩ := r
    exact .cons (strKind_is P w n tk) (items_of t)
theorem refs_of : ∀ {ks : List Ent} {us : List Value}, Vals (ks.map fun p => V.ref p.1) us → us = ks.map fun p => Value.ref p.1
  | [], _, .nil => rfl
  | p :: ks, _, .cons r t => by
    cases r
    rw [refs_of t]; rfl
theorem of_refs : ∀ (ks : List Ent), Vals (ks.map fun p => V.ref p.1) (ks.map fun p => Value.ref p.1)
  | [] => .nil
  | p :: ks => .cons rfl (of_refs ks)
end TT
def rSetU (K : PySem.W.Frag) (P : Program) (w : World) : List V → Hp → VK → Prop := fun xs H Q => ∃ (l : Addr) (ks : List TT.Ent), xs = [V.ref l] ∧ SqL K H l (ks.map fun p => V.ref p.1) ∧ (∀ p ∈ ks, SqT K H p.1 (p.2.map V.str)) ∧ ks.length < 64 ∧
  ∀ a L, H a = none → (∀ p ∈ L, p ∈ ks) → (∀ p ∈ ks, p.2 ∈ L.map (·.2)) → (L.map (·.2)).Nodup → Q (.ref a) (upd H a (TT.SetH P w a L))
def rSortedU (K : PySem.W.Frag) (P : Program) (w : World) : List V → Hp → VK → Prop := fun vs H Q => ∃ (a : Addr) (L : List TT.Ent), vs = [V.ref a] ∧ H a = some (TT.SetH P w a L) ∧ (∀ p ∈ L, SqT K H p.1 (p.2.map V.str)) ∧ (∀ p ∈ L, p.2 ≠ []) ∧
  ∀ (L' : List TT.Ent) (p : Addr), L'.Perm L → L'.map (fun q => encT q.2) = (L.map fun q => encT q.2).mergeSort (PySem.W.dataLe false id) → H p = none → Q (.ref p) (upd H p (.lst (L'.map fun q => V.ref q.1)))
def rSetB (K : PySem.W.Frag) (P : Program) (w : World) : List V → Hp → VK → Prop := fun xs H Q => rSetT K w xs H Q ∨ rSetU K P w xs H Q
def rSortedB (K : PySem.W.Frag) (P : Program) (w : World) : List V → Hp → VK → Prop := fun xs H Q => rSortedT w xs H Q ∨ rSortedU K P w xs H Q
section
variable {X : Cx}
theorem isTexts {pins : List (Addr × Obj)} {σ : St} {H : Hp} {s : Shared} {b : Addr} {k : List Str} (I : Inv X pins σ H s) (h : SqT X.K H b (k.map V.str)) : TT.Is X.prog X.w s.heap k b := by
  obtain ⟨its, r, ⟨o, ho, hc, n, hd⟩, _⟩ := I.tuple h
  exact ⟨o, its.toArray, n, ho, hc, hd, by simpa using TT.items_of r⟩
theorem cr_setB (hc : X.calm = true) (hu : X.A.units + 65 < cLine) : CallR X (.type "set") (rSetB X.K X.prog X.w) := by
  intro pins s σ H xs us Q I r h
  rcases h with h | ⟨l, ks, rfl, hl, hk, hf, q⟩
  · exact cr_setT hc pins s σ H xs us Q I r h
  rw [Vals.ref1 r]
  obtain ⟨its, rv, pl, hz⟩ := I.list hl
  have hn : H s.heap.objs.size = none := I.hok.fresh (Nat.le_refl _)
  refine TT.call_set (P := X.prog) (w := X.w) ks (I.ok.hd hc) pl.isList (by simpa using TT.refs_of rv) (fun p hp => isTexts I (hk p hp)) hf (by omega) fun h' tk L es ep t R g k => ?_
  refine ⟨.ref s.heap.objs.size, upd H s.heap.objs.size (TT.SetH X.prog X.w s.heap.objs.size L), I.laid (t' := tk) k (Nat.le_refl _) (TT.setH_new R), rfl, q _ L hn (fun p hp => ?_) (fun p hp => ?_) R.nd⟩
  · exact List.mem_of_mem_take (g.sub p hp)
  · exact g.all p (by rw [List.take_length]; exact hp)
theorem cr_sortedB (hc : X.calm = true) (hu : X.A.units + 65 < cLine) : CallR X (.builtin "sorted") (rSortedB X.K X.prog X.w) := by
  intro pins s σ H vs us Q I r h
  rcases h with h | ⟨a, L, rfl, ha, hk, hne, q⟩
  · exact cr_sortedT hc pins s σ H vs us Q I r h
  obtain ⟨es, ep, t, R⟩ := (I.hok a _ ha).1
  rw [Vals.ref1 r]
  refine TT.call_sorted R (fun p hp => isTexts I (hk p hp)) hne (I.ok.hd hc) hu fun s' p out c L' k g o hp hg hout pm pw => ?_
  have hfew : L'.length < 64 := by rw [pm.length_eq]; exact R.few
  have hlen : (L'.map fun q => V.ref q.1).length ≤ sizeLine := by rw [List.length_map, sizeLine_eq]; omega
  have hn : H p = none := I.hok.fresh hp
  have hv : Vals (L'.map fun q => V.ref q.1) out.toList := by rw [hout]; exact TT.of_refs L'
  have J : Inv X pins σ (upd H p (.lst (L'.map fun q => V.ref q.1))) { s with heap := s'.heap, gens := s'.gens, drawn := s'.drawn, toks := s'.toks } :=
    I.call (ch := []) (Un.laid k hp hn) (I.hok.laid k hp ⟨hlen, out.toList, c, hv, hg⟩) (by rw [g]; exact I.bare) (fun _ z => nomatch z)
  have e : s' = { s with heap := s'.heap, gens := s'.gens, drawn := s'.drawn, toks := s'.toks } := by
    cases s'
    cases s
    cases o
    rfl
  rw [e]
  exact ⟨.ref p, _, J, rfl, q L' p pm pw hn⟩
end
/-- what stands for tuples of texts -/
theorem ents_of {P : Hp} : ∀ {ds : List D} {vs : List V} {ks : List (List Str)}, RDs P ds vs → tupsOf ds = some ks →
    ∃ es : List TT.Ent, vs = (es.map fun p => V.ref p.1) ∧ es.map (·.2) = ks ∧ (∀ p ∈ es, P p.1 = some (.tup (p.2.map V.str))) ∧ ∀ p ∈ es, p.2 ≠ []
  | [], _, _, h, e => by
    cases e
    exact ⟨[], h.nil_inv, rfl, fun p q => absurd q List.not_mem_nil, fun p q => absurd q List.not_mem_nil⟩
  | d :: ds, _, ks, h, e => by
    obtain ⟨v, r, rfl, h1, h2⟩ := h.inv
    cases d with
    | tuple xs =>
      have e : (match strsOf xs, tupsOf ds with
        | some k, some ks => if k ≠ [] then some (k :: ks) else none
        | _, _ => none) = some ks := e
      cases e1 : strsOf xs with
      | none => rw [e1] at e; cases e
      | some k =>
        cases e2 : tupsOf ds with
        | none => rw [e1, e2] at e; cases e
        | some ks' =>
          rw [e1, e2] at e
          obtain ⟨hk, e⟩ := Option.ite_none_right_eq_some.mp e
          cases e
          rw [RD] at h1
          obtain ⟨a, ws, rfl, h3, h4⟩ := h1
          have e3 := h4.strs e1
          subst e3
          obtain ⟨es, g1, g2, g3, g4⟩ := ents_of h2 e2
          refine ⟨(a, k) :: es, by rw [g1]; rfl, by rw [← g2]; rfl, fun p hp => ?_, fun p hp => ?_⟩
          · rcases List.mem_cons.mp hp with rfl | hp
            · exact h3
            · exact g3 p hp
          · rcases List.mem_cons.mp hp with rfl | hp
            · exact hk
            · exact g4 p hp
    | _ => cases e
theorem rds_ents {P : Hp} : ∀ {L : List TT.Ent}, (∀ p ∈ L, P p.1 = some (.tup (p.2.map V.str))) → RDs P (L.map fun q => encT q.2) (L.map fun q => V.ref q.1)
  | [], _ => .nil
  | p :: L, h => by
    refine .cons ?_ (rds_ents fun q hq => h q (by simp [hq]))
    show RD P (.tuple (p.2.map PyData.str)) (V.ref p.1)
    rw [RD]
    exact ⟨_, _, rfl, h p (by simp), rds_strs _⟩
section
variable {X : Cx} {Wx : Wish} {σ : St} {H : Hp} {Q : VK} {g : Rho → R SW.A}
theorem im_srtSet (h : tE Wx (fun ρ => kLook (fUn .srtSet) (g ρ)) σ H Q) : tCB (rSortedB X.K X.prog X.w) (tCons (tCB (rSetB X.K X.prog X.w) (tCons (tE Wx g) tNil)) tNil) σ H Q :=
  im_look h fun P1 H1 ρ1 A1 d v o1 vd out => by
    unfold fUn at out
    cases d with
    | list ds =>
      have out : Out Wx RA σ P1 H1 A1 (rO (if ds.length < 64 then srtSetD ds else none) ρ1) Q := out
      split at out
      case isFalse => exact out.elim
      rename_i hl
      unfold srtSetD at out
      obtain ⟨a, vs, rfl, h1, h2⟩ := vd
      cases hb : strsOf ds with
      | some xs =>
        rw [hb] at out
        have out : Out Wx RA σ P1 H1 A1 (.ok (.vl (.lst ((sortS (nubS xs)).map .str))) ρ1) Q := out
        have e := h2.strs hb
        subst e
        have hlen : xs.length < 64 := by rw [len_strs hb]; exact hl
        refine .inl ⟨a, xs, rfl, .inl h1, hlen, fun p c hp hc => ?_⟩
        refine .inl ⟨p, _, c, rfl, upd_same, by omega, fun ys p' nd hs hm _ hp' => ?_⟩
        have e2 : ys = sortS (nubS xs) := sorted_nub nd hs fun k => by rw [hm k, decide_eq_true_eq]
        subst e2
        have x2 : Ext A1 P1 H1 P1 (upd H1 p (SetT X.w p (fun j => decide (j ∈ xs)) c)) := ext_new _ hp o1.sub
        exact Out.lst (out.shift x2 .refl) (o1.new _ hp) hp' (rds_strs _)
      | none =>
        rw [hb] at out
        cases ht : tupsOf ds with
        | none => rw [ht] at out; exact out.elim
        | some ks =>
          rw [ht] at out
          have out : Out Wx RA σ P1 H1 A1 (.ok (.vl (.lst (srtT ks))) ρ1) Q := out
          obtain ⟨es, rfl, ek, ht1, hne⟩ := ents_of h2 ht
          have hlen : es.length < 64 := by have := h2.length; rw [List.length_map] at this; omega
          refine .inr ⟨a, es, rfl, .inl h1, fun p hp => .inl (.inl (o1.sub _ _ (ht1 p hp))), hlen, fun p L hp m1 m2 nd => ?_⟩
          have keepU : ∀ b o, P1 b = some o → upd H1 p (TT.SetH X.prog X.w p L) b = some o := fun b o e => by
            have q := o1.sub b o e
            rw [upd_ne (fun z => by rw [z, hp] at q; cases q)]
            exact q
          refine .inr ⟨p, L, rfl, upd_same, fun q hq => .inl (.inl (keepU _ _ (ht1 q (m1 q hq)))), fun q hq => hne q (m1 q hq), fun L' p' pm pw hp' => ?_⟩
          have x2 : Ext A1 P1 H1 P1 (upd H1 p (TT.SetH X.prog X.w p L)) := ext_new _ hp o1.sub
          have pn : (L.map (·.2)).Perm (nubT ks) := (List.perm_ext_iff_of_nodup nd (nodup_nubT ks)).mpr fun k => by
            rw [mem_nubT, ← ek]
            constructor
            · intro z
              obtain ⟨q, hq, rfl⟩ := List.mem_map.mp z
              exact List.mem_map.mpr ⟨q, m1 q hq, rfl⟩
            · intro z
              obtain ⟨q, hq, rfl⟩ := List.mem_map.mp z
              exact m2 q hq
          have es2 : L'.map (fun q => encT q.2) = srtT ks := by
            rw [pw]
            have z := pn.map encT
            rw [List.map_map] at z
            refine sort_perm z fun x hx y hy e => ?_
            obtain ⟨q, _, rfl⟩ := List.mem_map.mp hx
            obtain ⟨r, _, rfl⟩ := List.mem_map.mp hy
            show encT q.2 = encT r.2
            rw [encT_inj e]
          have rds := rds_ents (P := P1) (L := L') fun q hq => ht1 q (m1 q (pm.mem_iff.mp hq))
          rw [es2] at rds
          exact Out.lst (out.shift x2 .refl) (o1.new _ hp) hp' rds
    | _ => exact out.elim
end
end SW

set_option Elab.async false
set_option linter.all false
set_option maxRecDepth 100000
set_option maxHeartbeats 2000000
/-! comprehensions; all expressions -/
namespace SW
open PySem PySem.Spec L2
open PyProof.Rows hiding St
section
variable {Wx : Wish} {X : Cx} {c : Cfg} {cx : Ctx} {k n : Nat} {σ : St} {H : Hp} {Q : VK}
theorem blk_ok (o : XOk Wx X c cx k) (s : Shared) (H : Hp) (scope : Scope) (C : Addr) (cl : List (Str × Addr)) (fp : List Addr) : XOk noWish (X.blk s H scope (compEnvC scope cl C X.env) fp) { c with sc := relS scope c.sc } cx k where
  sc := by rw [← o.sc]; rfl
  N := o.N
  nodup := o.nodup
  calm := o.calm
  room := o.room
  fns := fun x np nd h m h1 h2 => by
    obtain ⟨C⟩ := o.fns x np nd h m h1 h2
    exact ⟨⟨C.callf, C.dfl, C.f, C.fd, C.ps, C.ds, C.F, C.mg, C.kp, C.bd, C.rd, C.at_, C.len, C.eq⟩⟩
  con := o.con
  free := o.free
  pass := ⟨E0, takesE0, fun _ _ _ _ h => h.elim⟩
  exc := o.exc
theorem own_at {scope : Scope} {e : Expr} {own : List (Str × Nat)} (h : ownNames c scope e = some own) : ∃ x p, e = .Name x p ∧ own = [(x, slotNo c.N x)] ∧ plainN x = true ∧ (scope.names.lookup x = some .local ∨ scope.names.lookup x = some .cell) ∧ slotNo c.N x < c.N.length := by
  cases e with
  | Name x p =>
    have h : (if (plainN x && (match scope.names.lookup x with
      | some .local => true
      | some .cell => true
      | _ => false) && decide (slotNo c.N x < c.N.length)) = true then some [(x, slotNo c.N x)] else none) = some own := h
    obtain ⟨hh, e⟩ := Option.ite_none_right_eq_some.mp h
    cases e
    simp only [Bool.and_eq_true, decide_eq_true_eq] at hh
    obtain ⟨⟨h1, h2⟩, h3⟩ := hh
    refine ⟨x, p, rfl, rfl, h1, ?_, h3⟩
    split at h2
    · left; assumption
    · right; assumption
    · cases h2
  | _ => cases h
theorem pg_own (o : XOk Wx X c cx k) {s : Shared} {H : Hp} {scope : Scope} {C : Addr} {cl : List (Str × Addr)} {fp : List Addr} {x : Str} {p : Pos} (h2 : scope.names.lookup x = some .local ∨ scope.names.lookup x = some .cell) (h3 : slotNo c.N x < c.N.length) :
    PG (X.blk s H scope (compEnvC scope cl C X.env) fp) (.Name x p) (gName (slotNo c.N x)) := by
  have e : (compEnvC scope cl C X.env).scope = relS scope X.env.scope := rfl
  have lk : ∀ k, k ≠ .free → scope.names.lookup x = some k → (compEnvC scope cl C X.env).scope.names.lookup x = some k := fun k hk h => by
    rw [e]
    exact lookup_relS_keep hk h
  refine pg_name (X := X.blk s H scope (compEnvC scope cl C X.env) fp) (i := slotNo c.N x) (by show X.N.Nodup; rw [o.N]; exact o.nodup) (by show X.N[_]? = _; rw [o.N]; exact slot_at h3) ?_ ?_
  · rcases h2 with h | h
    · exact .inl (lk _ (fun z => nomatch z) h)
    · exact .inr (lk _ (fun z => nomatch z) h)
  · rcases h2 with h | h
    · exact .inr (lk _ (fun z => nomatch z) h)
    · refine .inl ?_
      show (scope.names.lookup x == some .cell) = true
      rw [h]; rfl
theorem pgs_own (o : XOk Wx X c cx k) {s : Shared} {H : Hp} {scope : Scope} {C : Addr} {cl : List (Str × Addr)} {fp : List Addr} : ∀ {es : List Expr} {own : List (Str × Nat)}, ownsNames c scope es = some own →
    PGs (X.blk s H scope (compEnvC scope cl C X.env) fp) es (gNames (own.map (·.2))) ∧ own.length = es.length ∧ ∀ env, (assignEach es env).length = es.length ∧ (assignEach es env).findIdx? (·.1) = none
  | [], _, h => by cases h; exact ⟨pgs_nil, rfl, fun _ => ⟨rfl, rfl⟩⟩
  | e :: es, own, h => by
    have h : (match ownNames c scope e, ownsNames c scope es with
      | some p, some q => some (p ++ q)
      | _, _ => none) = some own := h
    cases h1 : ownNames c scope e with
    | none => rw [h1] at h; cases h
    | some p =>
      cases h2 : ownsNames c scope es with
      | none => rw [h1, h2] at h; cases h
      | some q =>
        rw [h1, h2] at h
        cases h
        obtain ⟨x, ps, rfl, rfl, g1, g2, g3⟩ := own_at h1
        obtain ⟨q1, q2, q3⟩ := pgs_own o h2
        refine ⟨pgs_cons (pg_own o g2 g3) q1 rfl, by rw [List.length_append, q2]; simp; omega, fun env => ?_⟩
        obtain ⟨z1, z2⟩ := q3 env
        refine ⟨by rw [List.length_cons, ← z1]; rfl, ?_⟩
        show List.findIdx? (·.1) ((false, assign (.Name x ps) env) :: assignEach es env) = none
        rw [List.findIdx?_cons, z2]
        rfl
theorem target_at (o : XOk Wx X c cx k) {scope : Scope} {tg : Expr} {t : MT} {own : List (Str × Nat)} (h : ownTarget c scope tg = some (t, own)) :
    own.map (·.2) = t.slots ∧ t.slots.Nodup ∧ ∀ (s : Shared) (H : Hp) (C : Addr) (cl : List (Str × Addr)) (fp : List Addr), PG (X.blk s H scope (compEnvC scope cl C X.env) fp) tg (gT X.K t) := by
  cases tg with
  | Name x p =>
    obtain ⟨own', e, e2⟩ := map_some (show (ownNames c scope (.Name x p)).map (fun o => (MT.name (slotNo c.N x), o)) = some (t, own) from h)
    obtain ⟨y, p', e3, rfl, g1, g2, g3⟩ := own_at e
    cases e3
    cases e2
    exact ⟨rfl, by simp [MT.slots], fun s H C cl fp => pg_own o g2 g3⟩
  | Tuple es q p =>
    obtain ⟨own', e, e2⟩ := Option.bind_eq_some_iff.mp (show (ownsNames c scope es).bind (fun o => if (o.map (·.2)).Nodup then some (MT.tup (o.map (·.2)), o) else none) = some (t, own) from h)
    split at e2
    case isFalse => cases e2
    rename_i hn
    cases e2
    refine ⟨rfl, hn, fun s H C cl fp => ?_⟩
    obtain ⟨q1, q2, q3⟩ := pgs_own (s := s) (H := H) (C := C) (cl := cl) (fp := fp) o e
    show PG _ _ (gTup X.K (own.map (·.2)).length (gNames (own.map (·.2))))
    rw [List.length_map, q2]
    obtain ⟨z1, z2⟩ := q3 (compEnvC scope cl C X.env)
    exact pg_tup (X := X.blk s H scope (compEnvC scope cl C X.env) fp) o.calm q1 z1 z2
  | _ => cases h
theorem im_thenL {α β : Type} {L : Rel α β} {f : R (List D) → R α} {gs : Rho → R (List D)} {Q : β → Hp → Prop} {Q1 : List V → Hp → Prop} {m : Nat} (hm : ∀ ρ ds ρ', gs ρ = .ok ds ρ' → ds.length = m) (h : tG Wx L (fun ρ => f (gs ρ)) σ H Q)
    (hb : f .bad = .bad) (he : ∀ e ρ, f (.exc e ρ) = .exc e ρ)
    (k : ∀ P1 H1 ρ1 A1 ds vs, ds.length = m → Ok P1 H1 σ ρ1 A1 → RDs P1 ds vs → Out Wx L σ P1 H1 A1 (f (.ok ds ρ1)) Q → Q1 vs H1) : tVs Wx gs σ H Q1 := by
  obtain ⟨P, ρ, A, ok, out⟩ := h
  dsimp only at out
  refine ⟨P, ρ, A, ok, ?_⟩
  cases e : gs ρ with
  | bad => rw [e, hb] at out; exact out.elim
  | exc ex ρ1 => rw [e, he] at out; exact out
  | ok ds ρ1 =>
    rw [e] at out
    intro P1 H1 A1 B1 v x1 o1 r1 d1 n1
    obtain ⟨rfl, r1⟩ := r1
    exact k P1 H1 ρ1 A1 ds v (hm _ _ _ e) o1 r1 (out.shift x1 n1.left)
/-- a range, walked -/
theorem rng_w1 {P1 : Hp} {ds : List D} {vs : List V} {is : List D} (hl : ds.length = 1) (rs : RDs P1 ds vs) (hr : rngD ds = some is) : ∃ j : Int, vs = [.int j] ∧ -(2 ^ 62) ≤ j ∧ j < 2 ^ 62 ∧ Walked P1 (Itr 0 j.toNat) is := by
  match ds, hl, rs, hr with
  | [d], _, rs, hr =>
    cases d with
    | int j =>
      have hr : (if smallI j = true then some (rngL 0 j) else none) = some is := hr
      split at hr
      case isFalse => cases hr
      rename_i hs
      cases hr
      obtain ⟨v, rfl, rv⟩ := one_inv rs
      rw [RD] at rv
      subst rv
      obtain ⟨s1, s2⟩ := small_ok hs
      refine ⟨j, rfl, s1, s2, _, _, wk_rng, ?_, fun _ _ _ _ => trivial⟩
      have := rds_rng (P := P1) (lo := 0) (List.range j.toNat)
      unfold rngL
      rw [Int.sub_zero]
      exact this
    | _ => cases hr
theorem rng_w2 {P1 : Hp} {ds : List D} {vs : List V} {is : List D} (hl : ds.length = 2) (rs : RDs P1 ds vs) (hr : rngD ds = some is) : ∃ i j : Int, vs = [.int i, .int j] ∧ (-(2 ^ 62) ≤ i ∧ i < 2 ^ 62 ∧ -(2 ^ 62) ≤ j ∧ j < 2 ^ 62) ∧ Walked P1 (Itr i (j - i).toNat) is := by
  match ds, hl, rs, hr with
  | [d, e], _, rs, hr =>
    cases d with
    | int i =>
      cases e with
      | int j =>
        have hr : (if smallI i = true ∧ smallI j = true then some (rngL i j) else none) = some is := hr
        split at hr
        case isFalse => cases hr
        rename_i hs
        cases hr
        obtain ⟨v, w, rfl, rv, rw'⟩ := two_inv rs
        rw [RD] at rv rw'
        subst rv rw'
        obtain ⟨s1, s2⟩ := small_ok hs.1
        obtain ⟨s3, s4⟩ := small_ok hs.2
        exact ⟨i, j, rfl, ⟨s1, s2, s3, s4⟩, _, _, wk_rng, rds_rng (P := P1) (lo := i) (List.range (j - i).toNat), fun _ _ _ _ => trivial⟩
      | _ => cases hr
    | _ => cases hr
theorem rng_one {f : List D → Rho → R SW.A} {gs : Rho → R (List D)} {R1 : It → Hp → Prop} (hm : ∀ ρ ds ρ', gs ρ = .ok ds ρ' → ds.length = 1) (h : tE Wx (fun ρ => kRng f (gs ρ)) σ H Q)
    (k : ∀ P1 H1 ρ1 A1 ds J, Ok P1 H1 σ ρ1 A1 → Walked P1 J ds → Out Wx RA σ P1 H1 A1 (f ds ρ1) Q → R1 J H1) : iRng1 (tVs Wx gs) σ H R1 := by
  refine im_thenL (f := kRng f) hm h rfl (fun _ _ => rfl) fun P1 H1 ρ1 A1 ds vs hl o1 rs out => ?_
  simp only [kRng] at out
  cases hr : rngD ds with
  | none => rw [hr] at out; exact out.elim
  | some is =>
    rw [hr] at out
    obtain ⟨j, e, s1, s2, w⟩ := rng_w1 hl rs hr
    exact ⟨j, e, s1, s2, k P1 H1 ρ1 A1 _ _ o1 w out⟩
theorem rng_two {f : List D → Rho → R SW.A} {gs : Rho → R (List D)} {R1 : It → Hp → Prop} (hm : ∀ ρ ds ρ', gs ρ = .ok ds ρ' → ds.length = 2) (h : tE Wx (fun ρ => kRng f (gs ρ)) σ H Q)
    (k : ∀ P1 H1 ρ1 A1 ds J, Ok P1 H1 σ ρ1 A1 → Walked P1 J ds → Out Wx RA σ P1 H1 A1 (f ds ρ1) Q → R1 J H1) : iRng2 (tVs Wx gs) σ H R1 := by
  refine im_thenL (f := kRng f) hm h rfl (fun _ _ => rfl) fun P1 H1 ρ1 A1 ds vs hl o1 rs out => ?_
  simp only [kRng] at out
  cases hr : rngD ds with
  | none => rw [hr] at out; exact out.elim
  | some is =>
    rw [hr] at out
    obtain ⟨i, j, e, s, w⟩ := rng_w2 hl rs hr
    exact ⟨i, j, e, s, k P1 H1 ρ1 A1 _ _ o1 w out⟩
theorem no_setIter {it : Expr} {env : Env} (h : isSet it = false) (x : Value) : foldedSetIterable it env x = pure x := by
  cases it <;> first | rfl | cases h
theorem boot_range' : bootBuiltins "range" = some (.type "range") := by decide +kernel
theorem rng_at {it : Expr} {args : List Expr} (h : rngArgs c it = some args) : ∃ p2 pos, it = .Call (.Name "range" p2) args [] pos ∧ isGl c "range" = true ∧ c.free.contains ("range" : Str) = true ∧ noStar args = true ∧ (args.length = 1 ∨ args.length = 2) := by
  unfold rngArgs at h
  split at h
  case h_2 => cases h
  rename_i x p2 as pos
  split at h
  case isFalse => cases h
  rename_i hh
  cases h
  simp only [Bool.and_eq_true, Bool.or_eq_true, decide_eq_true_eq] at hh
  obtain ⟨⟨⟨⟨rfl, h1⟩, h2⟩, h3⟩, h4⟩ := hh
  exact ⟨p2, pos, rfl, h1, h2, h3, h4⟩
/-- how a comprehension is read -/
def LcR (X : Cx) (elt tg it : Expr) (ifs : List Expr) (scope : Scope) (t' : TE) : Prop := ∃ (own : List (Str × Nat)) (wi : TI) (g : TG) (tt : TT) (te : TE), PI X tg it wi ∧ BlkOk X.N X.env.scope scope own ∧
  (∀ (s : Shared) (H : Hp) (C : Addr) (cl : List (Str × Addr)) (fp : List Addr), PG (X.blk s H scope (compEnvC scope cl C X.env) fp) tg g) ∧ (∀ (s : Shared) (H : Hp) (C : Addr) (cl : List (Str × Addr)) (fp : List Addr), PTs (X.blk s H scope (compEnvC scope cl C X.env) fp) ifs tt) ∧
  (∀ (s : Shared) (H : Hp) (C : Addr) (cl : List (Str × Addr)) (fp : List Addr), PE (X.blk s H scope (compEnvC scope cl C X.env) fp) elt te) ∧ (∀ x, foldedSetIterable it X.env x = pure x) ∧ ∀ σ H Q, t' σ H Q → tLc wi g tt te (own.map (·.2)) σ H Q
theorem LcR.pe {elt tg it : Expr} {ifs : List Expr} {scope : Scope} {pos : Pos} {t' : TE} (hc : X.calm = true) (hN : X.N.Nodup) (h : LcR X elt tg it ifs scope t') : PE X (.ListComp elt [⟨tg, it, ifs, 0⟩] scope pos) t' := by
  obtain ⟨own, wi, g, tt, te, h1, h2, h3, h4, h5, h6, h7⟩ := h
  exact imp_PE (pe_lc hc hN h1 h2 h3 h4 h5 h6) h7
theorem pe_lcG (S : Snd n) (o : XOk Wx X c cx k) {elt tg it : Expr} {ifs : List Expr} {scope : Scope} {t : MT} {own : List (Str × Nat)} (ht : ownTarget c scope tg = some (t, own)) (hb : blkC c.N c.sc scope own = true) (hs : isSet it = false)
    {ce : Option ME} {cnd : Option (Rho → R SW.A)} (hts : ∀ (s : Shared) (H : Hp) (C : Addr) (cl : List (Str × Addr)) (fp : List Addr), PTs (X.blk s H scope (compEnvC scope cl C X.env) fp) ifs (ttC cnd))
    (hcd : evC cx ce (evE cx (compE n { c with sc := relS scope c.sc } elt)) = condC (evE cx (compE n { c with sc := relS scope c.sc } elt)) cnd)
    {r : Bool} {its : List ME} {wi : TI} (hwi : PI X tg it wi)
    (hrun : ∀ σ H Q (f : List D → Rho → R SW.A) (R1 : It → Hp → Prop), tE Wx (evI cx r its f) σ H Q → (∀ P1 H1 ρ1 A1 ds J, Ok P1 H1 σ ρ1 A1 → Walked P1 J ds → Out Wx RA σ P1 H1 A1 (f ds ρ1) Q → R1 J H1) → wi σ H R1) :
    LcR X elt tg it ifs scope (tE Wx (evE cx (.lc t r its ce (compE n { c with sc := relS scope c.sc } elt)))) := by
  obtain ⟨e1, e2, e3⟩ := target_at o ht
  have hbk : BlkOk X.N X.env.scope scope own := by rw [o.N, o.sc]; exact blkOk_by hb
  refine ⟨own, wi, gT X.K t, ttC cnd, _, hwi, hbk, e3, hts, (fun s H C cl fp => (S noWish _ { c with sc := relS scope c.sc } cx k (blk_ok o s H scope C cl fp) elt).1), (no_setIter hs), fun σ H Q h => ?_⟩
  rw [e1]
  refine hrun σ H Q _ _ h fun P1 H1 ρ1 A1 ds J o1 w out => ?_
  intro D hD
  exact im_lc (Wx := Wx) (cnd := cnd) hcd e2 o1 w out D hD
theorem pe_lcD (S : Snd n) (o : XOk Wx X c cx k) {elt tg it : Expr} {ifs : List Expr} {scope : Scope} {t : MT} {own : List (Str × Nat)} (ht : ownTarget c scope tg = some (t, own)) (hb : blkC c.N c.sc scope own = true) (hs : isSet it = false) (hi : ifs.length ≤ 1)
    {r : Bool} {its : List ME} {wi : TI} (hwi : PI X tg it wi)
    (hrun : ∀ σ H Q (f : List D → Rho → R SW.A) (R1 : It → Hp → Prop), tE Wx (evI cx r its f) σ H Q → (∀ P1 H1 ρ1 A1 ds J, Ok P1 H1 σ ρ1 A1 → Walked P1 J ds → Out Wx RA σ P1 H1 A1 (f ds ρ1) Q → R1 J H1) → wi σ H R1) :
    LcR X elt tg it ifs scope (tE Wx (evE cx (.lc t r its (ifs.head?.map (compE n { c with sc := relS scope c.sc })) (compE n { c with sc := relS scope c.sc } elt)))) := by
  match ifs, hi with
  | [], _ => exact pe_lcG S o ht hb hs (cnd := none) (fun s H C cl fp => pts_nil) rfl hwi hrun
  | [e], _ => exact pe_lcG S o ht hb hs (cnd := some (evE cx (compE n { c with sc := relS scope c.sc } e))) (fun s H C cl fp => pts_one (S noWish _ _ cx k (blk_ok o s H scope C cl fp) e).2) rfl hwi hrun
theorem pe_lcAll (S : Snd n) (o : XOk Wx X c cx k) {elt tg it : Expr} {ifs : List Expr} {scope : Scope} {pos : Pos} : LcR X elt tg it ifs scope (tE Wx (evE cx (compE (n + 1) c (.ListComp elt [⟨tg, it, ifs, 0⟩] scope pos)))) ∨ compE (n + 1) c (.ListComp elt [⟨tg, it, ifs, 0⟩] scope pos) = .bad := by
  have e : compE (n + 1) c (.ListComp elt [⟨tg, it, ifs, 0⟩] scope pos) = (match ownTarget c scope tg with
    | some (t, own) =>
      let c' : Cfg := { c with sc := relS scope c.sc }
      if blkC c.N c.sc scope own && !isSet it && decide (ifs.length ≤ 1) then
        (match rngArgs c it with
          | some args => .lc t true (args.map (compE n c)) (ifs.head?.map (compE n c')) (compE n c' elt)
          | none => .lc t false [compE n c it] (ifs.head?.map (compE n c')) (compE n c' elt))
      else .bad
    | none => .bad) := rfl
  rw [e]
  cases ht : ownTarget c scope tg with
  | none => exact .inr rfl
  | some q =>
    obtain ⟨t, own⟩ := q
    dsimp only
    split
    case isFalse => exact .inr rfl
    refine .inl ?_
    rename_i hh
    simp only [Bool.and_eq_true, Bool.not_eq_true', decide_eq_true_eq] at hh
    obtain ⟨⟨h1, h2⟩, h3⟩ := hh
    cases hr : rngArgs c it with
    | none =>
      refine pe_lcD S o ht h1 h2 h3 (pi_any (S Wx X c cx k o it).1) fun σ H Q f R1 h k' => ?_
      obtain ⟨P, ρ, A, ok, out⟩ := h
      exact im_iter (L := RA) (f := f) (g := evE cx (compE n c it)) (Q := Q) ok out k'
    | some args =>
      obtain ⟨p2, pos2, rfl, g1, g2, g3, g4⟩ := rng_at hr
      obtain ⟨g, pl⟩ := gl_of o g1
      have hm := o.free "range" (by simpa using g2)
      have hl : ∀ ρ ds ρ', evVs cx (args.map (compE n c)) ρ = .ok ds ρ' → ds.length = args.length := fun ρ ds ρ' e => by rw [evVs_len _ _ _ _ e, List.length_map]
      have hev : ∀ (f : List D → Rho → R SW.A), args ≠ [] → evI cx true (args.map (compE n c)) f = fun ρ => kRng f (evVs cx (args.map (compE n c)) ρ) := by
        intro f hne
        cases args with
        | nil => exact absurd rfl hne
        | cons a as => rfl
      match args, g3, g4, hl, hev, h2, hr with
      | [a], g3, _, hl, hev, h2, _ =>
        refine pe_lcD S o ht h1 h2 h3 (pi_range1 g hm (pa_vals (Wx := Wx) S o g3) (star_cons g3)) fun σ H Q f R1 h k' => ?_
        rw [hev f (by simp)] at h
        exact rng_one hl h k'
      | [a, b], g3, _, hl, hev, h2, _ =>
        refine pe_lcD S o ht h1 h2 h3 (pi_range2 g hm (pa_vals (Wx := Wx) S o g3) (by rw [star_cons g3, star_cons (noStar_tail g3)]; rfl) (star_cons (noStar_tail g3))) fun σ H Q f R1 h k' => ?_
        rw [hev f (by simp)] at h
        exact rng_two hl h k'
      | [], _, h, _, _, _, _ => simp at h
      | _ :: _ :: _ :: _, _, h, _, _, _, _ => simp at h
theorem pe_lcE (S : Snd n) (o : XOk Wx X c cx k) {elt tg it : Expr} {ifs : List Expr} {scope : Scope} {pos : Pos} : PE X (.ListComp elt [⟨tg, it, ifs, 0⟩] scope pos) (tE Wx (evE cx (compE (n + 1) c (.ListComp elt [⟨tg, it, ifs, 0⟩] scope pos)))) := by
  rcases pe_lcAll (Wx := Wx) (pos := pos) S o (elt := elt) (tg := tg) (it := it) (ifs := ifs) (scope := scope) with h | h
  · exact h.pe o.calm (by rw [o.N]; exact o.nodup)
  · rw [h]; exact pe_bad
/-- how a dict's comprehension is read -/
def DcR (X : Cx) (kx vx tg it : Expr) (ifs : List Expr) (scope : Scope) (t' : TE) : Prop := ∃ (own : List (Str × Nat)) (wi : TI) (g : TG) (tt : TT) (tk tv : TE), PI X tg it wi ∧ BlkOk X.N X.env.scope scope own ∧
  (∀ (s : Shared) (H : Hp) (C : Addr) (cl : List (Str × Addr)) (fp : List Addr), PG (X.blk s H scope (compEnvC scope cl C X.env) fp) tg g) ∧ (∀ (s : Shared) (H : Hp) (C : Addr) (cl : List (Str × Addr)) (fp : List Addr), PTs (X.blk s H scope (compEnvC scope cl C X.env) fp) ifs tt) ∧
  (∀ (s : Shared) (H : Hp) (C : Addr) (cl : List (Str × Addr)) (fp : List Addr), PE (X.blk s H scope (compEnvC scope cl C X.env) fp) kx tk) ∧ (∀ (s : Shared) (H : Hp) (C : Addr) (cl : List (Str × Addr)) (fp : List Addr), PE (X.blk s H scope (compEnvC scope cl C X.env) fp) vx tv) ∧ (∀ x, foldedSetIterable it X.env x = pure x) ∧ ∀ σ H Q, t' σ H Q → tDc wi g tt tk tv (own.map (·.2)) σ H Q
theorem DcR.pe {kx vx tg it : Expr} {ifs : List Expr} {scope : Scope} {pos : Pos} {t' : TE} (hc : X.calm = true) (hN : X.N.Nodup) (h : DcR X kx vx tg it ifs scope t') : PE X (.DictComp kx vx [⟨tg, it, ifs, 0⟩] scope pos) t' := by
  obtain ⟨own, wi, g, tt, tk, tv, h1, h2, h3, h4, h5, h5', h6, h7⟩ := h
  exact imp_PE (pe_dc hc hN h1 h2 h3 h4 h5 h5' h6) h7
theorem pe_dcG (S : Snd n) (o : XOk Wx X c cx k) {kx vx tg it : Expr} {ifs : List Expr} {scope : Scope} {t : MT} {own : List (Str × Nat)} (ht : ownTarget c scope tg = some (t, own)) (hb : blkC c.N c.sc scope own = true) (hs : isSet it = false)
    {ce : Option ME} {cnd : Option (Rho → R SW.A)} (hts : ∀ (s : Shared) (H : Hp) (C : Addr) (cl : List (Str × Addr)) (fp : List Addr), PTs (X.blk s H scope (compEnvC scope cl C X.env) fp) ifs (ttC cnd))
    (hcd : evC cx ce (fun ρ => kTup (kTwo (evE cx (compE n { c with sc := relS scope c.sc } vx)) (evE cx (compE n { c with sc := relS scope c.sc } kx) ρ))) = condC (fun ρ => kTup (kTwo (evE cx (compE n { c with sc := relS scope c.sc } vx)) (evE cx (compE n { c with sc := relS scope c.sc } kx) ρ))) cnd)
    {r : Bool} {its : List ME} {wi : TI} (hwi : PI X tg it wi)
    (hrun : ∀ σ H Q (f : List D → Rho → R SW.A) (R1 : It → Hp → Prop), tE Wx (evI cx r its f) σ H Q → (∀ P1 H1 ρ1 A1 ds J, Ok P1 H1 σ ρ1 A1 → Walked P1 J ds → Out Wx RA σ P1 H1 A1 (f ds ρ1) Q → R1 J H1) → wi σ H R1) :
    DcR X kx vx tg it ifs scope (tE Wx (evE cx (.dcm t r its ce (compE n { c with sc := relS scope c.sc } kx) (compE n { c with sc := relS scope c.sc } vx)))) := by
  obtain ⟨e1, e2, e3⟩ := target_at o ht
  have hbk : BlkOk X.N X.env.scope scope own := by rw [o.N, o.sc]; exact blkOk_by hb
  refine ⟨own, wi, gT X.K t, ttC cnd, _, _, hwi, hbk, e3, hts, (fun s H C cl fp => (S noWish _ { c with sc := relS scope c.sc } cx k (blk_ok o s H scope C cl fp) kx).1), (fun s H C cl fp => (S noWish _ { c with sc := relS scope c.sc } cx k (blk_ok o s H scope C cl fp) vx).1), (no_setIter hs), fun σ H Q h => ?_⟩
  rw [e1]
  refine hrun σ H Q _ _ h fun P1 H1 ρ1 A1 ds J o1 w out => ?_
  intro D hD
  exact im_dc (Wx := Wx) (cnd := cnd) hcd e2 o1 w out D hD
theorem pe_dcD (S : Snd n) (o : XOk Wx X c cx k) {kx vx tg it : Expr} {ifs : List Expr} {scope : Scope} {t : MT} {own : List (Str × Nat)} (ht : ownTarget c scope tg = some (t, own)) (hb : blkC c.N c.sc scope own = true) (hs : isSet it = false) (hi : ifs.length ≤ 1)
    {r : Bool} {its : List ME} {wi : TI} (hwi : PI X tg it wi)
    (hrun : ∀ σ H Q (f : List D → Rho → R SW.A) (R1 : It → Hp → Prop), tE Wx (evI cx r its f) σ H Q → (∀ P1 H1 ρ1 A1 ds J, Ok P1 H1 σ ρ1 A1 → Walked P1 J ds → Out Wx RA σ P1 H1 A1 (f ds ρ1) Q → R1 J H1) → wi σ H R1) :
    DcR X kx vx tg it ifs scope (tE Wx (evE cx (.dcm t r its (ifs.head?.map (compE n { c with sc := relS scope c.sc })) (compE n { c with sc := relS scope c.sc } kx) (compE n { c with sc := relS scope c.sc } vx)))) := by
  match ifs, hi with
  | [], _ => exact pe_dcG S o ht hb hs (cnd := none) (fun s H C cl fp => pts_nil) rfl hwi hrun
  | [e], _ => exact pe_dcG S o ht hb hs (cnd := some (evE cx (compE n { c with sc := relS scope c.sc } e))) (fun s H C cl fp => pts_one (S noWish _ _ cx k (blk_ok o s H scope C cl fp) e).2) rfl hwi hrun
theorem pe_dcAll (S : Snd n) (o : XOk Wx X c cx k) {kx vx tg it : Expr} {ifs : List Expr} {scope : Scope} {pos : Pos} : DcR X kx vx tg it ifs scope (tE Wx (evE cx (compE (n + 1) c (.DictComp kx vx [⟨tg, it, ifs, 0⟩] scope pos)))) ∨ compE (n + 1) c (.DictComp kx vx [⟨tg, it, ifs, 0⟩] scope pos) = .bad := by
  have e : compE (n + 1) c (.DictComp kx vx [⟨tg, it, ifs, 0⟩] scope pos) = (match ownTarget c scope tg with
    | some (t, own) =>
      let c' : Cfg := { c with sc := relS scope c.sc }
      if blkC c.N c.sc scope own && !isSet it && decide (ifs.length ≤ 1) then
        (match rngArgs c it with
          | some args => .dcm t true (args.map (compE n c)) (ifs.head?.map (compE n c')) (compE n c' kx) (compE n c' vx)
          | none => .dcm t false [compE n c it] (ifs.head?.map (compE n c')) (compE n c' kx) (compE n c' vx))
      else .bad
    | none => .bad) := rfl
  rw [e]
  cases ht : ownTarget c scope tg with
  | none => exact .inr rfl
  | some q =>
    obtain ⟨t, own⟩ := q
    dsimp only
    split
    case isFalse => exact .inr rfl
    refine .inl ?_
    rename_i hh
    simp only [Bool.and_eq_true, Bool.not_eq_true', decide_eq_true_eq] at hh
    obtain ⟨⟨h1, h2⟩, h3⟩ := hh
    cases hr : rngArgs c it with
    | none =>
      refine pe_dcD S o ht h1 h2 h3 (pi_any (S Wx X c cx k o it).1) fun σ H Q f R1 h k' => ?_
      obtain ⟨P, ρ, A, ok, out⟩ := h
      exact im_iter (L := RA) (f := f) (g := evE cx (compE n c it)) (Q := Q) ok out k'
    | some args =>
      obtain ⟨p2, pos2, rfl, g1, g2, g3, g4⟩ := rng_at hr
      obtain ⟨g, pl⟩ := gl_of o g1
      have hm := o.free "range" (by simpa using g2)
      have hl : ∀ ρ ds ρ', evVs cx (args.map (compE n c)) ρ = .ok ds ρ' → ds.length = args.length := fun ρ ds ρ' e => by rw [evVs_len _ _ _ _ e, List.length_map]
      have hev : ∀ (f : List D → Rho → R SW.A), args ≠ [] → evI cx true (args.map (compE n c)) f = fun ρ => kRng f (evVs cx (args.map (compE n c)) ρ) := by
        intro f hne
        cases args with
        | nil => exact absurd rfl hne
        | cons a as => rfl
      match args, g3, g4, hl, hev, h2, hr with
      | [a], g3, _, hl, hev, h2, _ =>
        refine pe_dcD S o ht h1 h2 h3 (pi_range1 g hm (pa_vals (Wx := Wx) S o g3) (star_cons g3)) fun σ H Q f R1 h k' => ?_
        rw [hev f (by simp)] at h
        exact rng_one hl h k'
      | [a, b], g3, _, hl, hev, h2, _ =>
        refine pe_dcD S o ht h1 h2 h3 (pi_range2 g hm (pa_vals (Wx := Wx) S o g3) (by rw [star_cons g3, star_cons (noStar_tail g3)]; rfl) (star_cons (noStar_tail g3))) fun σ H Q f R1 h k' => ?_
        rw [hev f (by simp)] at h
        exact rng_two hl h k'
      | [], _, h, _, _, _, _ => simp at h
      | _ :: _ :: _ :: _, _, h, _, _, _, _ => simp at h
theorem pe_dcE (S : Snd n) (o : XOk Wx X c cx k) {kx vx tg it : Expr} {ifs : List Expr} {scope : Scope} {pos : Pos} : PE X (.DictComp kx vx [⟨tg, it, ifs, 0⟩] scope pos) (tE Wx (evE cx (compE (n + 1) c (.DictComp kx vx [⟨tg, it, ifs, 0⟩] scope pos)))) := by
  rcases pe_dcAll (Wx := Wx) (pos := pos) S o (kx := kx) (vx := vx) (tg := tg) (it := it) (ifs := ifs) (scope := scope) with h | h
  · exact h.pe o.calm (by rw [o.N]; exact o.nodup)
  · rw [h]; exact pe_bad
/-! ### all expressions -/
theorem pt_same {e : Expr} {t : TE} (h : PE X e t) (he : ∀ whole, PySem.isTrue e X.env whole = (do let v ← whole; standAt e.pos; holding [v] (truthy v))) : PE X e t ∧ PT X e (tB t) := ⟨h, pt_val h he⟩
theorem pe_and_bad {e : Expr} : PE X e (tE Wx (evE cx .bad)) ∧ PT X e (tB (tE Wx (evE cx .bad))) := ⟨pe_bad, pt_bad⟩
end
theorem isRev_of {lo hi : Option Expr} {st : Expr} (h : isRev lo hi (.some st) = true) : ∃ q p3 p4, lo = none ∧ hi = none ∧ st = .UnaryOp .USub (.Constant (.int 1) q p3) p4 := by
  unfold isRev at h
  split at h
  · rename_i e
    cases e
    exact ⟨_, _, _, rfl, rfl, rfl⟩
  · cases h
theorem srtSet_of {c : Cfg} {f : Str} {args : List Expr} {e : Expr} (h : srtSetOf c f args = some e) : isGl c f = true ∧ isGl c ("set" : Str) = true ∧ ∃ p5 p6, f = ("sorted" : Str) ∧ args = [.Call (.Name ("set" : Str) p5) [e] [] p6] ∧ noStar [e] = true ∧ ("sorted" : Str) ∈ c.free ∧ ("set" : Str) ∈ c.free := by
  unfold srtSetOf at h
  split at h
  · split at h
    · rename_i q
      cases h
      simp only [Bool.and_eq_true, decide_eq_true_eq] at q
      obtain ⟨⟨⟨⟨⟨⟨rfl, rfl⟩, q3⟩, q4⟩, q5⟩, q6⟩, q7⟩ := q
      exact ⟨q3, q4, _, _, rfl, rfl, q7, by simpa using q5, by simpa using q6⟩
    · cases h
  · cases h
theorem itms_of {c : Cfg} {f : Str} {args : List Expr} {e : Expr} (h : itmsOf c f args = some e) : isGl c f = true ∧ ∃ p5 p6, f = ("list" : Str) ∧ args = [.Call (.Attribute e ("items" : Str) p5) [] [] p6] ∧ plainBase e = true ∧ (p5.endLine == p6.line) = true ∧ ("list" : Str) ∈ c.free := by
  unfold itmsOf at h
  split at h
  · split at h
    · rename_i q
      cases h
      simp only [Bool.and_eq_true, decide_eq_true_eq] at q
      obtain ⟨⟨⟨⟨⟨rfl, rfl⟩, q3⟩, q4⟩, q5⟩, q6⟩ := q
      exact ⟨q3, _, _, rfl, rfl, q5, q6, by simpa using q4⟩
    · cases h
  · cases h
section
variable {n : Nat} (S : Snd n) {Wx : Wish} {X : Cx} {c : Cfg} {cx : Ctx} {k : Nat} (o : XOk Wx X c cx k)
include S o
theorem pe_srtSet {e : Expr} {p p5 p6 pos : Pos} (g1 : isGl c ("sorted" : Str) = true) (g2 : isGl c ("set" : Str) = true) (hf : ("sorted" : Str) ∈ c.free) (hf2 : ("set" : Str) ∈ c.free) (hs : noStar [e] = true) :
    PE X (.Call (.Name ("sorted" : Str) p) [.Call (.Name ("set" : Str) p5) [e] [] p6] [] pos) (tE Wx (evE cx (.un .srtSet (compE n c e)))) := by
  have inner : PE X (.Call (.Name ("set" : Str) p5) [e] [] p6) (tCB (rSetB X.K X.prog X.w) (tCons (tE Wx (evE cx (compE n c e))) tNil)) :=
    pe_callTy (cr_setB o.calm o.hu) (gl_of o g2).1 (o.free _ hf2) (by decide +kernel) (pa_cons (S Wx X c cx k o e).1 pa_nil (star_cons hs)) (by decide) (by decide) (star_cons hs) rfl
  have outer := pe_callB (p := p) (pos := pos) (cr_sortedB o.calm o.hu) (gl_of o g1).1 (o.free _ hf) (by decide +kernel) (pa_cons inner pa_nil (star_cons rfl)) (by decide) (by decide) (star_cons rfl) rfl
  exact imp_PE outer fun σ H Q h => im_srtSet h
theorem im_mn {m : Bool} {ma mb : ME} {σ : St} {H : Hp} {Q : VK} (h : tE Wx (evE cx (.mn m ma mb)) σ H Q) : tVs Wx (evVs cx [ma, mb]) σ H (fun vs H1 => ∃ i j, vs = [.int i, .int j] ∧ Q (.int (mnI m i j)) H1) := by
  obtain ⟨P, ρ, A, ok, out⟩ := h
  have out : Out Wx RA σ P H A (kMn m (evVs cx [ma, mb] ρ)) Q := out
  refine ⟨P, ρ, A, ok, ?_⟩
  cases e : evVs cx [ma, mb] ρ with
  | bad => rw [e] at out; exact out.elim
  | exc ex ρ1 => rw [e] at out; exact out
  | ok ds ρ1 =>
    rw [e] at out
    intro P1 H1 A1 B1 v x1 o1 r1 d1 n1
    obtain ⟨rfl, r1⟩ := r1
    have hl := evVs_len _ _ _ _ e
    match ds, hl, out, r1 with
    | [.int i, .int j], _, out, r1 =>
      have out : Out Wx RA σ P H A (.ok (.vl (.val (.int (mnI m i j)))) ρ1) Q := out
      obtain ⟨w1, w2, rfl, h7, h8⟩ := two_inv r1
      rw [RD] at h7 h8
      subst h7 h8
      exact ⟨i, j, rfl, (Out.shift (L := RA) out x1 n1.left).val o1 rd_int⟩
theorem pe_mnD {a b : Expr} {p2 p : Pos} {m : Bool} {x : Str} (hx : x = if m = true then ("max" : Str) else ("min" : Str)) (hg : isGl c x = true) (hf : x ∈ c.free) (hs : noStar [a, b] = true) :
    PE X (.Call (.Name x p2) [a, b] [] p) (tE Wx (evE cx (.mn m (compE n c a) (compE n c b)))) := by
  have pa := pa_vals (Wx := Wx) S o hs
  cases m with
  | true =>
    have hx : x = ("max" : Str) := hx
    subst hx
    exact imp_PE (pe_callB (call_max2 o.calm) (gl_of o hg).1 (o.free _ hf) (by decide +kernel) pa (by decide) (by decide) (star_cons hs) (plain_star (noStar_tail hs))) fun σ H Q h => im_mn S o h
  | false =>
    have hx : x = ("min" : Str) := hx
    subst hx
    exact imp_PE (pe_callB (call_min2 o.calm) (gl_of o hg).1 (o.free _ hf) (by decide +kernel) pa (by decide) (by decide) (star_cons hs) (plain_star (noStar_tail hs))) fun σ H Q h => im_mn S o h
theorem pe_itms {e : Expr} {p p5 p6 pos : Pos} (g1 : isGl c ("list" : Str) = true) (hf : ("list" : Str) ∈ c.free) (hb : plainBase e = true) (hl : (p5.endLine == p6.line) = true) :
    PE X (.Call (.Name ("list" : Str) p) [.Call (.Attribute e ("items" : Str) p5) [] [] p6] [] pos) (tE Wx (evE cx (.un .itms (compE n c e)))) :=
  imp_PE (pe_itm o.calm (S Wx X c cx k o e).1 (gl_of o g1).1 (o.free _ hf) hb hl) fun σ H Q h => im_itms h
end
theorem snd_all : ∀ n, Snd n
  | 0 => fun Wx X c cx k o e => pe_and_bad
  | n + 1 => fun Wx X c cx k o e => by
    have S := snd_all n
    cases e with
    | Name x p => exact pt_same (pe_nameD o) (fun _ => rfl)
    | Constant q a p => exact pt_same (pe_constD (f := none)) (fun _ => rfl)
    | BinOp a op b p => exact pt_same (pe_binD S o) (fun _ => rfl)
    | UnaryOp op a p =>
      cases op with
      | Not => exact pe_notD S o
      | USub => exact pt_same (pe_negD S o) (fun _ => rfl)
      | _ => exact pe_and_bad
    | BoolOp op es p =>
      cases op with
      | And => exact ⟨(pe_andL S o es).1, (pe_andL S o es).2.pt⟩
      | Or => exact ⟨(pe_orL S o es).1, (pe_orL S o es).2.pt⟩
    | IfExp t a b p => exact pe_ifD S o
    | Compare a ops bs p =>
      match ops, bs with
      | [op], [b] =>
        show PE X _ (tE Wx (evE cx (if isSet b = true then .bad else .cmp op (compE n c a) (compE n c b)))) ∧ PT X _ (tB (tE Wx (evE cx (if isSet b = true then .bad else .cmp op (compE n c a) (compE n c b)))))
        split
        · exact pe_and_bad
        · rename_i h; exact pe_cmpD S o h
      | [op1, op2], [b, d] =>
        show PE X _ (tE Wx (evE cx (if isSet d = true then .bad else .chn op1 op2 (compE n c a) (compE n c b) (compE n c d)))) ∧ PT X _ (tB (tE Wx (evE cx (if isSet d = true then .bad else .chn op1 op2 (compE n c a) (compE n c b) (compE n c d)))))
        split
        · exact pe_and_bad
        · rename_i h; exact pe_chnD S o h
      | [], _ => exact pe_and_bad
      | [_], [] => exact pe_and_bad
      | [_], _ :: _ :: _ => exact pe_and_bad
      | [_, _], [] => exact pe_and_bad
      | [_, _], [_] => exact pe_and_bad
      | [_, _], _ :: _ :: _ :: _ => exact pe_and_bad
      | _ :: _ :: _ :: _, _ => exact pe_and_bad
    | Tuple es q p =>
      show PE X _ (tE Wx (evE cx (if noStar es && decide (es.length ≤ 1000) then .tupE (es.map (compE n c)) else .bad))) ∧ PT X _ (tB (tE Wx (evE cx (if noStar es && decide (es.length ≤ 1000) then .tupE (es.map (compE n c)) else .bad))))
      split
      · rename_i h
        rw [Bool.and_eq_true, decide_eq_true_eq] at h
        exact pt_same (pe_tupD S o h.1 h.2) (fun _ => rfl)
      · exact pe_and_bad
    | List es p =>
      show PE X _ (tE Wx (evE cx (if noStar es && decide (es.length ≤ 1000) then .lstE (es.map (compE n c)) else .bad))) ∧ PT X _ (tB (tE Wx (evE cx (if noStar es && decide (es.length ≤ 1000) then .lstE (es.map (compE n c)) else .bad))))
      split
      · rename_i h
        rw [Bool.and_eq_true, decide_eq_true_eq] at h
        exact pt_same (pe_lstD S o h.1 h.2) (fun _ => rfl)
      · exact pe_and_bad
    | Dict keys vs p =>
      show PE X _ (tE Wx (evE cx (match litKeys keys with
        | some ks => if decide (vs.length = keys.length) && decide (keys.length ≤ 15) then .dctE ks (vs.map (compE n c)) else .bad
        | none => match keys, vs with
          | [some a], [b] => .dct1 (compE n c a) (compE n c b)
          | _, _ => .bad))) ∧ PT X _ (tB (tE Wx (evE cx (match litKeys keys with
        | some ks => if decide (vs.length = keys.length) && decide (keys.length ≤ 15) then .dctE ks (vs.map (compE n c)) else .bad
        | none => match keys, vs with
          | [some a], [b] => .dct1 (compE n c a) (compE n c b)
          | _, _ => .bad))))
      cases hk : litKeys keys with
      | none =>
        match keys, vs, hk with
        | [some a], [b], _ => exact pt_same (pe_dct1D S o) (fun _ => rfl)
        | [], _, h => cases h
        | [none], [_], _ => exact pe_and_bad
        | [none], [], _ => exact pe_and_bad
        | [none], _ :: _ :: _, _ => exact pe_and_bad
        | [some _], [], _ => exact pe_and_bad
        | [some _], _ :: _ :: _, _ => exact pe_and_bad
        | none :: _ :: _, _, _ => exact pe_and_bad
        | some _ :: _ :: _, _, _ => exact pe_and_bad
      | some ks =>
        dsimp only
        split
        · rename_i h
          rw [Bool.and_eq_true, decide_eq_true_eq, decide_eq_true_eq] at h
          exact pt_same (pe_dctD S o hk h.1 h.2) (fun _ => rfl)
        · exact pe_and_bad
    | Subscript a b p =>
      have plain : ∀ b, isSlice b = false → compE (n + 1) c (.Subscript a b p) = .idx (compE n c a) (compE n c b) → PE X (.Subscript a b p) (tE Wx (evE cx (compE (n + 1) c (.Subscript a b p)))) ∧ PT X (.Subscript a b p) (tB (tE Wx (evE cx (compE (n + 1) c (.Subscript a b p))))) := fun b h e => by
        rw [e]
        exact pt_same (pe_ixD S o (by rw [h]; exact Bool.false_ne_true)) (fun _ => rfl)
      cases b with
      | Slice lo hi st p2 =>
        cases st with
        | none => exact pt_same (pe_slcD S o) (fun _ => rfl)
        | some st =>
          show PE X _ (tE Wx (evE cx (if isRev lo hi (.some st) = true then .un .rev (compE n c a) else .bad))) ∧ PT X _ (tB (tE Wx (evE cx (if isRev lo hi (.some st) = true then .un .rev (compE n c a) else .bad))))
          split
          · rename_i h
            obtain ⟨q, p3, p4, rfl, rfl, rfl⟩ := isRev_of h
            exact pt_same (imp_PE (pe_revL (S Wx X c cx k o a).1) fun σ H Q h => im_rev h) (fun _ => rfl)
          · exact pe_and_bad
      | _ => exact plain _ rfl rfl
    | ListComp elt gens scope p =>
      match gens with
      | [⟨tg, it, ifs, a⟩] =>
        cases a with
        | ofNat m =>
          cases m with
          | zero => exact pt_same (pe_lcE S o) (fun _ => rfl)
          | succ _ => exact pe_and_bad
        | negSucc _ => exact pe_and_bad
      | [] => exact pe_and_bad
      | ⟨_, _, _, a⟩ :: _ :: _ =>
        cases a with
        | ofNat m => cases m <;> exact pe_and_bad
        | negSucc _ => exact pe_and_bad
    | DictComp kx vx gens scope p =>
      match gens with
      | [⟨tg, it, ifs, a⟩] =>
        cases a with
        | ofNat m =>
          cases m with
          | zero => exact pt_same (pe_dcE S o) (fun _ => rfl)
          | succ _ => exact pe_and_bad
        | negSucc _ => exact pe_and_bad
      | [] => exact pe_and_bad
      | ⟨_, _, _, a⟩ :: _ :: _ =>
        cases a with
        | ofNat m => cases m <;> exact pe_and_bad
        | negSucc _ => exact pe_and_bad
    | Call f args kws p =>
      cases kws with
      | cons _ _ => cases f <;> exact pe_and_bad
      | nil =>
        cases f with
        | Name x p2 =>
          show PE X _ (tE Wx (evE cx (match srtSetOf c x args, itmsOf c x args with
            | some e, _ => .un .srtSet (compE n c e)
            | none, some e => .un .itms (compE n c e)
            | none, none => if isGl c x && noStar args then
            (match c.fn x with
              | some (np, nd) => if decide (args.length ≤ np) && decide (np ≤ args.length + nd) && decide (args ≠ []) then .call x (args.map (compE n c)) else .bad
              | none => if c.free.contains x = true then
                (match args with
                  | [a] => (match bltNames.lookup x with
                    | some b => .blt b (compE n c a)
                    | none => .bad)
                  | [a, t] => if x = ("isinstance" : Str) then cIsi c (compE n c a) t else if x = ("min" : Str) then .mn false (compE n c a) (compE n c t) else if x = ("max" : Str) then .mn true (compE n c a) (compE n c t) else .bad
                  | _ => .bad)
                else .bad)
            else .bad))) ∧ PT X _ (tB (tE Wx (evE cx (match srtSetOf c x args, itmsOf c x args with
            | some e, _ => .un .srtSet (compE n c e)
            | none, some e => .un .itms (compE n c e)
            | none, none => if isGl c x && noStar args then
            (match c.fn x with
              | some (np, nd) => if decide (args.length ≤ np) && decide (np ≤ args.length + nd) && decide (args ≠ []) then .call x (args.map (compE n c)) else .bad
              | none => if c.free.contains x = true then
                (match args with
                  | [a] => (match bltNames.lookup x with
                    | some b => .blt b (compE n c a)
                    | none => .bad)
                  | [a, t] => if x = ("isinstance" : Str) then cIsi c (compE n c a) t else if x = ("min" : Str) then .mn false (compE n c a) (compE n c t) else if x = ("max" : Str) then .mn true (compE n c a) (compE n c t) else .bad
                  | _ => .bad)
                else .bad)
            else .bad))))
          cases h1 : srtSetOf c x args with
          | some e0 =>
            obtain ⟨g1, g2, p5, p6, rfl, rfl, hs, hf, hf2⟩ := srtSet_of h1
            exact pt_same (pe_srtSet S o g1 g2 hf hf2 hs) (fun _ => rfl)
          | none =>
          cases h2 : itmsOf c x args with
          | some e0 =>
            obtain ⟨g1, p5, p6, rfl, rfl, hb, hl, hf⟩ := itms_of h2
            exact pt_same (pe_itms S o g1 hf hb hl) (fun _ => rfl)
          | none =>
          dsimp only
          split
          case isFalse => exact pe_and_bad
          rename_i h
          rw [Bool.and_eq_true] at h
          cases hf : c.fn x with
          | some q =>
            obtain ⟨np, nd⟩ := q
            dsimp only
            split
            case isFalse => exact pe_and_bad
            rename_i h2
            simp only [Bool.and_eq_true, decide_eq_true_eq] at h2
            exact pt_same (pe_callD S o hf h2.1.1 h2.1.2 h2.2 h.1 h.2) (fun _ => rfl)
          | none =>
            dsimp only
            split
            case isFalse => exact pe_and_bad
            rename_i h3
            match args, h with
            | [], _ => exact pe_and_bad
            | [a], h =>
              dsimp only
              cases hb : bltNames.lookup x with
              | none => exact pe_and_bad
              | some b =>
                obtain ⟨g, pl⟩ := gl_of o h.1
                obtain ⟨d1, _, d3⟩ := plain_of pl
                have hm := o.free x (by simpa using h3)
                have fB : ∀ id, CallR X (.builtin id) (rB1 Wx (fBlt b)) → bootBuiltins x = some (.builtin id) → PE X (.Call (.Name x p2) [a] [] p) (tE Wx (evE cx (.blt b (compE n c a)))) := fun id cr bo =>
                  imp_PE (pe_callB cr g hm bo (pa_cons (S Wx X c cx k o a).1 pa_nil (star_cons h.2)) d3 d1 (star_cons h.2) rfl) fun σ H Q h => im_blt h
                have fT : ∀ id, CallR X (.type id) (rB1 Wx (fBlt b)) → bootBuiltins x = some (.type id) → PE X (.Call (.Name x p2) [a] [] p) (tE Wx (evE cx (.blt b (compE n c a)))) := fun id cr bo =>
                  imp_PE (pe_callTy cr g hm bo (pa_cons (S Wx X c cx k o a).1 pa_nil (star_cons h.2)) d3 d1 (star_cons h.2) rfl) fun σ H Q h => im_blt h
                have hmem := PySem.mem_of_lookup hb
                simp only [bltNames, List.mem_cons, Prod.mk.injEq, List.not_mem_nil, or_false] at hmem
                rcases hmem with ⟨rfl, rfl⟩ | ⟨rfl, rfl⟩ | ⟨rfl, rfl⟩ | ⟨rfl, rfl⟩ | ⟨rfl, rfl⟩ | ⟨rfl, rfl⟩ | ⟨rfl, rfl⟩ | ⟨rfl, rfl⟩ | ⟨rfl, rfl⟩
                · exact pt_same (fB _ cr_len boot_len) (fun _ => rfl)
                · exact pt_same (fT _ (cr_list o.calm) boot_list) (fun _ => rfl)
                · exact pt_same (fT _ cr_tuple boot_tuple) (fun _ => rfl)
                · exact pt_same (fT _ cr_int boot_int) (fun _ => rfl)
                · exact pt_same (fB _ (cr_all' o.calm) (by decide +kernel)) (fun _ => rfl)
                · exact pt_same (fB _ (cr_any' o.calm) (by decide +kernel)) (fun _ => rfl)
                · exact pt_same (fT _ (cr_dict o.hu o.calm) boot_dict) (fun _ => rfl)
                · exact pt_same (fB _ (cr_srt o.hu) (by decide +kernel)) (fun _ => rfl)
                · exact pt_same (fT _ cr_str (by decide +kernel)) (fun _ => rfl)
            | [a, t], h =>
              dsimp only
              split
              · rename_i hx
                subst hx
                exact pt_same (pe_isiD S o h.1 h3 h.2) (fun _ => rfl)
              · split
                · rename_i hx
                  exact pt_same (pe_mnD S o (m := false) hx h.1 (by simpa using h3) h.2) (fun _ => rfl)
                · split
                  · rename_i hx
                    exact pt_same (pe_mnD S o (m := true) hx h.1 (by simpa using h3) h.2) (fun _ => rfl)
                  · exact pe_and_bad
            | _ :: _ :: _ :: _, _ => exact pe_and_bad
        | Attribute ob m apos =>
          show PE X _ (tE Wx (evE cx (if apos.endLine == p.line && noStar args && decide (args.length ≤ 3) && plainBase ob then cMeth m (nameVar c ob) (compE n c ob) (args.map (compE n c)) else .bad))) ∧ PT X _ (tB (tE Wx (evE cx (if apos.endLine == p.line && noStar args && decide (args.length ≤ 3) && plainBase ob then cMeth m (nameVar c ob) (compE n c ob) (args.map (compE n c)) else .bad))))
          split
          · rename_i h
            simp only [Bool.and_eq_true, decide_eq_true_eq] at h
            exact pt_same (pe_methD S o h.2 h.1.1.2 h.1.2 h.1.1.1) (fun _ => rfl)
          · exact pe_and_bad
        | _ => exact pe_and_bad
    | _ => exact pe_and_bad
end SW

set_option Elab.async false
set_option linter.all false
set_option maxRecDepth 100000
set_option maxHeartbeats 2000000
/-! statements' readings -/
namespace SW
open PySem PySem.Spec L2
open PyProof.Rows hiding St
/-- names that stay as they were bound -/
def Fz (fz : Nat → Bool) (σ σ' : St) : Prop := σ'.length = σ.length ∧ ∀ j, fz j = true → σ'[j]? = σ[j]?
theorem Fz.refl {fz : Nat → Bool} {σ : St} : Fz fz σ σ := ⟨rfl, fun _ _ => rfl⟩
theorem Fz.trans {fz : Nat → Bool} {σ σ' σ'' : St} (h : Fz fz σ σ') (h' : Fz fz σ' σ'') : Fz fz σ σ'' := ⟨h'.1.trans h.1, fun j hj => (h'.2 j hj).trans (h.2 j hj)⟩
def OutS (Wx : Wish) (fz : Nat → Bool) (D : Ends) (σ : St) (P H : Hp) (A : List Addr) (s : S) : Prop := match s with
  | .nx ρ' => ∀ P' H' A' σ', Ext A P H P' H' → Ok P' H' σ' ρ' A' → New A H A' → Fz fz σ σ' → D.nx σ' H'
  | .bk ρ' => ∀ P' H' A' σ', Ext A P H P' H' → Ok P' H' σ' ρ' A' → New A H A' → Fz fz σ σ' → D.bk σ' H'
  | .ct ρ' => ∀ P' H' A' σ', Ext A P H P' H' → Ok P' H' σ' ρ' A' → New A H A' → Fz fz σ σ' → D.ct σ' H'
  | .rt o ρ' => ∀ P' H' A' B σ' v, Ext A P H P' H' → Ok P' H' σ' ρ' A' → RO P' H' B o v → (A' ++ B).Nodup → New A H (A' ++ B) → Fz fz σ σ' → D.rt v H'
  | .exc e ρ' => ∀ P' H' A' σ', Ext A P H P' H' → Ok P' H' σ' ρ' A' → New A H A' → Fz fz σ σ' → Wx e P' H' σ'
  | .bad => False
def tS (Wx : Wish) (fz : Nat → Bool) (g : Rho → S) : TS := fun D σ H => ∃ P ρ A, Ok P H σ ρ A ∧ OutS Wx fz D σ P H A (g ρ)
section
variable {Wx : Wish} {fz : Nat → Bool} {D : Ends} {σ σ1 : St} {P H P1 H1 : Hp} {A A1 : List Addr} {ρ : Rho}
theorem OutS.shift {s : S} (h : OutS Wx fz D σ P H A s) (x : Ext A P H P1 H1) (n : New A H A1) (z : Fz fz σ σ1) : OutS Wx fz D σ1 P1 H1 A1 s := by
  cases s with
  | nx ρ' => exact fun P2 H2 A2 σ2 x2 o2 n2 z2 => h P2 H2 A2 σ2 (x.trans x2 n) o2 (n.trans n2 x.there) (z.trans z2)
  | bk ρ' => exact fun P2 H2 A2 σ2 x2 o2 n2 z2 => h P2 H2 A2 σ2 (x.trans x2 n) o2 (n.trans n2 x.there) (z.trans z2)
  | ct ρ' => exact fun P2 H2 A2 σ2 x2 o2 n2 z2 => h P2 H2 A2 σ2 (x.trans x2 n) o2 (n.trans n2 x.there) (z.trans z2)
  | rt o ρ' => exact fun P2 H2 A2 B σ2 v x2 o2 r2 d2 n2 z2 => h P2 H2 A2 B σ2 v (x.trans x2 n) o2 r2 d2 (n.trans n2 x.there) (z.trans z2)
  | exc e ρ' => exact fun P2 H2 A2 σ2 x2 o2 n2 z2 => h P2 H2 A2 σ2 (x.trans x2 n) o2 (n.trans n2 x.there) (z.trans z2)
  | bad => exact h
theorem OutS.exc_ {e : Exn} {ρ' : Rho} {α β : Type} {L : Rel α β} {Q : β → Hp → Prop} (h : OutS Wx fz D σ P H A (.exc e ρ')) : Out Wx L σ P H A (.exc e ρ' : R α) Q :=
  fun P' H' A' x o n => h P' H' A' σ x o n .refl
/-! ### frames -/
theorem frzS' {f : SW.D → Rho → S} {g : Rho → R SW.A} {Q1 : VK} (ok : Ok P H σ ρ A) (out : OutS Wx fz D σ P H A (kFrzS f (g ρ)))
    (k : ∀ P1 H1 ρ1 A1 d v, Keep P P1 → Ok P1 H1 σ ρ1 A1 → RD P1 d v → OutS Wx fz D σ P1 H1 A1 (f d ρ1) → Q1 v H1) : tE Wx g σ H Q1 := by
  refine ⟨P, ρ, A, ok, ?_⟩
  cases e : g ρ with
  | bad => rw [e] at out; exact out.elim
  | exc ex ρ1 => rw [e] at out; exact out.exc_
  | ok x ρ1 =>
    rw [e] at out
    intro P1 H1 A1 B1 v x1 o1 r1 d1 n1
    cases l : frz x ρ1 with
    | none => simp only [kFrzS, l] at out; exact out.elim
    | some p =>
      obtain ⟨d, ρ'⟩ := p
      simp only [kFrzS, l] at out
      obtain ⟨P', A', x', o', q, n'⟩ := step_frz x1 o1 r1 d1 n1 l
      exact k P' H1 ρ' A' d v x'.keep o' q (out.shift x' n' .refl)
theorem frzS {f : SW.D → Rho → S} {g : Rho → R SW.A} {Q1 : VK} (h : tS Wx fz (fun ρ => kFrzS f (g ρ)) D σ H)
    (k : ∀ P1 H1 ρ1 A1 d v, Ok P1 H1 σ ρ1 A1 → RD P1 d v → OutS Wx fz D σ P1 H1 A1 (f d ρ1) → Q1 v H1) : tE Wx g σ H Q1 := by
  obtain ⟨P, ρ, A, ok, out⟩ := h
  exact frzS' ok out fun P1 H1 ρ1 A1 d v _ => k P1 H1 ρ1 A1 d v
theorem valsS {f : R (List SW.D) → S} {gs : Rho → R (List SW.D)} {Q1 : List V → Hp → Prop} {m : Nat} (hm : ∀ ρ ds ρ', gs ρ = .ok ds ρ' → ds.length = m) (h : tS Wx fz (fun ρ => f (gs ρ)) D σ H)
    (hb : f .bad = .bad) (he : ∀ e ρ, f (.exc e ρ) = .exc e ρ)
    (k : ∀ P1 H1 ρ1 A1 ds vs, ds.length = m → Ok P1 H1 σ ρ1 A1 → RDs P1 ds vs → OutS Wx fz D σ P1 H1 A1 (f (.ok ds ρ1)) → Q1 vs H1) : tVs Wx gs σ H Q1 := by
  obtain ⟨P, ρ, A, ok, out⟩ := h
  dsimp only at out
  refine ⟨P, ρ, A, ok, ?_⟩
  cases e : gs ρ with
  | bad => rw [e, hb] at out; exact out.elim
  | exc ex ρ1 => rw [e, he] at out; exact out.exc_
  | ok ds ρ1 =>
    rw [e] at out
    intro P1 H1 A1 B1 v x1 o1 r1 d1 n1
    obtain ⟨rfl, r1⟩ := r1
    exact k P1 H1 ρ1 A1 ds v (hm _ _ _ e) o1 r1 (out.shift x1 n1.left .refl)
theorem tstS {y n : Rho → S} {g : Rho → R SW.A} {Q1 : VK} (h : tS Wx fz (fun ρ => kTstS y n (g ρ)) D σ H)
    (k : ∀ H1 (b : Bool), (b = true → tS Wx fz y D σ H1) → (b = false → tS Wx fz n D σ H1) → Q1 (.bl b) H1) : tE Wx g σ H Q1 := by
  obtain ⟨P, ρ, A, ok, out⟩ := h
  dsimp only at out
  refine ⟨P, ρ, A, ok, ?_⟩
  cases e : g ρ with
  | bad => rw [e] at out; exact out.elim
  | exc ex ρ1 => rw [e] at out; exact out.exc_
  | ok x ρ1 =>
    rw [e] at out
    intro P1 H1 A1 B1 v x1 o1 r1 d1 n1
    cases l : look x ρ1 with
    | none => simp only [kTstS, l] at out; exact out.elim
    | some d =>
      have vd := o1.vw r1 l
      cases d with
      | bool b =>
        have e1 := vw_bool vd
        subst e1
        refine k H1 b (fun hb => ?_) fun hb => ?_
        · subst hb
          simp only [kTstS, l] at out
          exact ⟨P1, ρ1, A1, o1, out.shift x1 n1.left .refl⟩
        · subst hb
          simp only [kTstS, l] at out
          exact ⟨P1, ρ1, A1, o1, out.shift x1 n1.left .refl⟩
      | _ => simp only [kTstS, l] at out; exact out.elim
/-- a value bound to a name or given away -/
theorem take_ok {x : SW.A} {v : V} {o : O} {ρ' : Rho} {B : List Addr} (ok : Ok P H σ ρ A) (r : RA P H σ ρ B x v) (nd : (A ++ B).Nodup) (e : take x ρ = some (o, ρ')) :
    ∃ P' A' B', Ext (A ++ B) P H P' H ∧ Ok P' H σ ρ' A' ∧ RO P' H B' o v ∧ (A' ++ B').Nodup ∧ ∀ a ∈ A' ++ B', a ∈ A ++ B := by
  cases x with
  | vl y =>
    cases e
    exact ⟨P, A, B, .refl, ok, r, nd, fun _ h => h⟩
  | pl i =>
    have key : ∀ d, o = .val d → frz (.pl i) ρ = some (d, ρ') → ∃ P' A' B', Ext (A ++ B) P H P' H ∧ Ok P' H σ ρ' A' ∧ RO P' H B' o v ∧ (A' ++ B').Nodup ∧ ∀ a ∈ A' ++ B', a ∈ A ++ B := by
      rintro d rfl hf
      obtain ⟨P', A', x', o', q, s', _⟩ := frz_ok ok r nd hf
      exact ⟨P', A', [], x', o', ⟨rfl, q⟩, by rw [List.append_nil]; exact o'.nd, fun a ha => by rw [List.append_nil] at ha; exact List.mem_append_left _ (s' a ha)⟩
    have e : (match slot ρ i with
      | some (.val d) => some (.val d, ρ)
      | some o => some (.val o.data, ρ.set i (some (.val o.data)))
      | none => none) = some (o, ρ') := e
    cases hs : slot ρ i with
    | none => rw [hs] at e; cases e
    | some y =>
      rw [hs] at e
      cases y with
      | val d => cases e; exact key d rfl (by simp only [frz, hs])
      | lst ds => cases e; exact key _ rfl (by simp only [frz, hs])
      | dct ds => cases e; exact key _ rfl (by simp only [frz, hs])
theorem give_ok {np : Nat} {x : SW.A} {v : V} {o : O} {ρ' : Rho} {B : List Addr} (ok : Ok P H σ ρ A) (r : RA P H σ ρ B x v) (nd : (A ++ B).Nodup) (e : give np x ρ = some (o, ρ')) :
    ∃ P' A' B', Ext (A ++ B) P H P' H ∧ Ok P' H σ ρ' A' ∧ RO P' H B' o v ∧ (A' ++ B').Nodup ∧ ∀ a ∈ A' ++ B', a ∈ A ++ B := by
  cases x with
  | vl y =>
    cases e
    exact ⟨P, A, B, .refl, ok, r, nd, fun _ h => h⟩
  | pl i =>
    have key : ∀ d, o = .val d → frz (.pl i) ρ = some (d, ρ') → ∃ P' A' B', Ext (A ++ B) P H P' H ∧ Ok P' H σ ρ' A' ∧ RO P' H B' o v ∧ (A' ++ B').Nodup ∧ ∀ a ∈ A' ++ B', a ∈ A ++ B := by
      rintro d rfl hf
      obtain ⟨P', A', x', o', q, s', _⟩ := frz_ok ok r nd hf
      exact ⟨P', A', [], x', o', ⟨rfl, q⟩, by rw [List.append_nil]; exact o'.nd, fun a ha => by rw [List.append_nil] at ha; exact List.mem_append_left _ (s' a ha)⟩
    have mv : ∀ y, slot ρ i = some y → o = y → ρ' = ρ.set i none → ∃ P' A' B', Ext (A ++ B) P H P' H ∧ Ok P' H σ ρ' A' ∧ RO P' H B' o v ∧ (A' ++ B').Nodup ∧ ∀ a ∈ A' ++ B', a ∈ A ++ B := by
      rintro y hs rfl rfl
      obtain ⟨rfl, hv⟩ := r
      obtain ⟨w, A1, C, A2, e1, rfl, q, up⟩ := ok.sl.at' hs
      rw [hv] at e1
      cases e1
      obtain ⟨n1, n2, n3⟩ := nodup_mid ok.nd
      have h4 := up [] P H .refl (fun _ _ => List.not_mem_nil) none [] rfl
      rw [List.nil_append] at h4
      refine ⟨P, A1 ++ A2, C, .refl, ⟨ok.sub, h4, n1⟩, q, List.nodup_append.mpr ⟨n1, n3, fun a ha b hb z => n2 a ha (by rw [z]; exact hb)⟩, fun a ha => ?_⟩
      rw [List.append_nil]
      rcases List.mem_append.mp ha with z | z
      · exact mem_mid z
      · simp [z]
    have e : (match slot ρ i with
      | some (.val d) => some (.val d, ρ)
      | some o => if i < np then some (.val o.data, ρ.set i (some (.val o.data))) else some (o, ρ.set i none)
      | none => none) = some (o, ρ') := e
    cases hs : slot ρ i with
    | none => rw [hs] at e; cases e
    | some y =>
      rw [hs] at e
      cases y with
      | val d => cases e; exact key d rfl (by simp only [frz, hs])
      | lst ds =>
        dsimp only at e
        split at e
        · cases e; exact key _ rfl (by simp only [frz, hs])
        · cases e; exact mv _ hs rfl rfl
      | dct ds =>
        dsimp only at e
        split at e
        · cases e; exact key _ rfl (by simp only [frz, hs])
        · cases e; exact mv _ hs rfl rfl
/-- a name bound -/
theorem bind_name {i : Nat} {o : O} {v : V} {B : List Addr} (ok : Ok P H σ ρ A) (r : RO P H B o v) (nd : (A ++ B).Nodup) (hi : i < σ.length) (hf : fz i = false)
    (out : OutS Wx fz D σ P H (A ++ B) (.nx (ρ.set i (some o)))) : gName i v σ H D.nx := by
  obtain ⟨A1, A0, A2, rfl, h3⟩ := Slots.put (X := []) Ext.refl i ok.sl (fun _ _ => List.not_mem_nil) r (by rw [ok.len]; exact hi)
  have n1 := ok.nd
  have nm := (nodup_mid n1).1
  have hB := (List.nodup_append.mp nd).2.1
  have dd : ∀ a ∈ A1 ++ A2, a ∉ B := fun a ha hb => (List.nodup_append.mp nd).2.2 a (mem_mid ha) a hb rfl
  have nd2 : (A1 ++ (B ++ A2)).Nodup := by
    have := List.nodup_append.mp nm
    refine List.nodup_append.mpr ⟨this.1, List.nodup_append.mpr ⟨hB, this.2.1, fun a ha b hb q => dd b (List.mem_append_right _ hb) (by rw [← q]; exact ha)⟩, fun a ha b hb q => ?_⟩
    rcases List.mem_append.mp hb with z | z
    · exact dd a (List.mem_append_left _ ha) (by rw [q]; exact z)
    · exact this.2.2 a ha b z q
  refine out P H _ _ .refl ⟨ok.sub, h3, nd2⟩ (fun a ha => .inl ?_) ⟨List.length_set, fun j hj => List.getElem?_set_ne fun e => ?_⟩
  · rcases List.mem_append.mp ha with z | z
    · exact List.mem_append_left _ (List.mem_append_left _ z)
    · rcases List.mem_append.mp z with z | z
      · exact List.mem_append_right _ z
      · exact List.mem_append_left _ (by simp [z])
  · subst e; rw [hf] at hj; cases hj
theorem im_asg {K : PySem.W.Frag} {t : MT} {g : Rho → R SW.A} (hl : ∀ i ∈ t.slots, i < σ.length) (hf : ∀ i ∈ t.slots, fz i = false) (h : tS Wx fz (fun ρ => kBind t (g ρ)) D σ H) : tAsg (tE Wx g) (gT K t) D σ H := by
  obtain ⟨P, ρ, A, ok, out⟩ := h
  dsimp only at out
  refine ⟨P, ρ, A, ok, ?_⟩
  cases e : g ρ with
  | bad => rw [e] at out; exact out.elim
  | exc ex ρ1 => rw [e] at out; exact out.exc_
  | ok x ρ1 =>
    rw [e] at out
    intro P1 H1 A1 B1 v x1 o1 r1 d1 n1
    simp only [kBind] at out
    cases ht : take x ρ1 with
    | none => rw [ht] at out; exact out.elim
    | some p =>
      obtain ⟨o, ρ2⟩ := p
      rw [ht] at out
      dsimp only at out
      obtain ⟨P2, A2, B2, x2, o2, r2, d2, s2⟩ := take_ok o1 r1 d1 ht
      have x02 : Ext A P H P2 H1 := x1.trans x2 n1
      have n02 : New A H (A2 ++ B2) := fun a ha => n1 a (s2 a ha)
      cases t with
      | name i =>
        have out : OutS Wx fz D σ P H A (.nx (ρ2.set i (some o))) := out
        exact bind_name o2 r2 d2 (hl i (by simp [MT.slots])) (hf i (by simp [MT.slots])) (out.shift x02 n02 .refl)
      | tup is =>
        cases hb : bindT (.tup is) o ρ2 with
        | none => rw [hb] at out; exact out.elim
        | some ρ3 =>
          rw [hb] at out
          cases o with
          | val d =>
            refine bindT_ok o2 r2.2 hb (fun i hi => by rw [o2.len]; exact hl i hi) fun σ' A' o' s' hs hn => ?_
            exact out P2 H1 A' σ' x02 o' (fun a ha => n02 a (List.mem_append_left _ (s'.subset ha))) ⟨hn, fun j hj => hs j fun q => by rw [hf j q] at hj; cases hj⟩
          | lst ds => cases hb
          | dct ds => cases hb
theorem im_exprS {g : Rho → R SW.A} (h : tS Wx fz (fun ρ => kExpr (g ρ)) D σ H) : tDrop (tE Wx g) D σ H := by
  obtain ⟨P, ρ, A, ok, out⟩ := h
  dsimp only at out
  refine ⟨P, ρ, A, ok, ?_⟩
  cases e : g ρ with
  | bad => rw [e] at out; exact out.elim
  | exc ex ρ1 => rw [e] at out; exact out.exc_
  | ok x ρ1 =>
    rw [e] at out
    intro P1 H1 A1 B1 v x1 o1 r1 d1 n1
    exact out P1 H1 A1 σ x1 o1 n1.left .refl
theorem im_retS {np : Nat} {g : Rho → R SW.A} (h : tS Wx fz (fun ρ => kRetS np (g ρ)) D σ H) : tRet (tE Wx g) D σ H := by
  obtain ⟨P, ρ, A, ok, out⟩ := h
  dsimp only at out
  refine ⟨P, ρ, A, ok, ?_⟩
  cases e : g ρ with
  | bad => rw [e] at out; exact out.elim
  | exc ex ρ1 => rw [e] at out; exact out.exc_
  | ok x ρ1 =>
    rw [e] at out
    intro P1 H1 A1 B1 v x1 o1 r1 d1 n1
    simp only [kRetS] at out
    cases ht : give np x ρ1 with
    | none => rw [ht] at out; exact out.elim
    | some p =>
      obtain ⟨o, ρ2⟩ := p
      rw [ht] at out
      dsimp only at out
      obtain ⟨P2, A2, B2, x2, o2, r2, d2, s2⟩ := give_ok o1 r1 d1 ht
      exact out P2 H1 A2 B2 σ v (x1.trans x2 n1) o2 r2 d2 (fun a ha => n1 a (s2 a ha)) .refl
/-! ### sequences, loops -/
theorem seq_out {f : Rho → S} {s : S} (h : OutS Wx fz D σ P H A (kSeq f s)) : OutS Wx fz { D with nx := fun σ' H' => tS Wx fz f D σ' H' } σ P H A s := by
  cases s with
  | nx ρ' => exact fun P' H' A' σ' x o n z => ⟨P', ρ', A', o, OutS.shift (s := f ρ') h x n z⟩
  | _ => exact h
theorem seq_outN {f : Rho → S} {s : S} {N : St → Hp → Prop} (h : OutS Wx fz D σ P H A (kSeq f s)) (k : ∀ P' H' A' σ' ρ', Ext A P H P' H' → Ok P' H' σ' ρ' A' → Fz fz σ σ' → OutS Wx fz D σ' P' H' A' (f ρ') → N σ' H') : OutS Wx fz { D with nx := N } σ P H A s := by
  cases s with
  | nx ρ' => exact fun P' H' A' σ' x o n z => k P' H' A' σ' ρ' x o z (OutS.shift (s := f ρ') h x n z)
  | _ => exact h
theorem loop_out {f : Rho → S} {s : S} {N : St → Hp → Prop} (h : OutS Wx fz D σ P H A (kLoop f s)) (k : ∀ P' H' A' σ' ρ', Ext A P H P' H' → Ok P' H' σ' ρ' A' → Fz fz σ σ' → OutS Wx fz D σ' P' H' A' (f ρ') → N σ' H') :
    OutS Wx fz { D with nx := N, ct := N, bk := D.nx } σ P H A s := by
  cases s with
  | nx ρ' => exact fun P' H' A' σ' x o n z => k P' H' A' σ' ρ' x o z (OutS.shift (s := f ρ') h x n z)
  | ct ρ' => exact fun P' H' A' σ' x o n z => k P' H' A' σ' ρ' x o z (OutS.shift (s := f ρ') h x n z)
  | _ => exact h
theorem im_whl {t : Rho → R SW.A} {b : Rho → S} {n : Nat} (h : tS Wx fz (whL t b n) D σ H) : tWhile (tB (tE Wx t)) (tS Wx fz b) D σ H := by
  refine ⟨fun m σ H => tS Wx fz (whL t b m) D σ H, ⟨n, h⟩, fun m σ H h => ?_⟩
  cases m with
  | zero => obtain ⟨P, ρ, A, ok, out⟩ := h; exact out.elim
  | succ m =>
    refine tstS (y := fun ρ' => kLoop (whL t b m) (b ρ')) (n := .nx) h fun H1 c hy hn => ⟨c, rfl, ?_⟩
    cases c with
    | true =>
      rw [if_pos rfl]
      obtain ⟨P, ρ, A, ok, out⟩ := hy rfl
      exact ⟨fun σ' H' => tS Wx fz (whL t b m) D σ' H', fun σ' H' q => ⟨m, Nat.lt_succ_self m, q⟩, P, ρ, A, ok, loop_out out fun P' H' A' σ' ρ' x o z q => ⟨P', ρ', A', o, q⟩⟩
    | false =>
      rw [if_neg Bool.false_ne_true]
      obtain ⟨P, ρ, A, ok, out⟩ := hn rfl
      exact out P H1 A σ .refl ok .refl .refl
/-- a loop over what is walked -/
theorem im_forW {K : PySem.W.Frag} {t : MT} {b : Rho → S} {ds : List SW.D} {J : It} (hl : ∀ i ∈ t.slots, i < σ.length) (hf : ∀ i ∈ t.slots, fz i = false) (ok : Ok P1 H1 σ ρ A) (w : Walked P1 J ds) (out : OutS Wx fz D σ P1 H1 A (foL t b ds ρ)) :
    ∃ W : Nat → Nat → St → Hp → Prop, (∃ m, W 0 m σ H1) ∧ ∀ i m σ H, W i m σ H →
      (J.stop i H ∧ D.nx σ H) ∨ (J.go i H ∧ ∃ N : St → Hp → Prop, (∀ σ' H', N σ' H' → ∃ m', m' < m ∧ W (i + 1) m' σ' H') ∧ ∀ x H', J.yld i H x H' → gT K t x σ H' fun σ2 H2 => (tS Wx fz b) { D with nx := N, ct := N, bk := D.nx } σ2 H2) := by
  obtain ⟨vs, okH, wk, rv, hok⟩ := w
  refine ⟨fun i m σ' H => m = ds.length - i ∧ i ≤ ds.length ∧ σ'.length = σ.length ∧ ∃ P ρ A, Keep P1 P ∧ Ok P H σ' ρ A ∧ OutS Wx fz D σ' P H A (foL t b (ds.drop i) ρ), ⟨ds.length, rfl, Nat.zero_le _, rfl, P1, ρ, A, .refl, ok, by rw [List.drop_zero]; exact out⟩, ?_⟩
  rintro i m σ' H ⟨rfl, hi, hlen, P, ρ, A, kp, ok, out⟩
  have kH : okH H := hok P H kp ok.sub
  have lv : ds.length = vs.length := rv.length
  by_cases hlt : i < ds.length
  · refine .inr ⟨wk.go i H kH (by omega), fun σ'' H' => i + 1 ≤ ds.length ∧ σ''.length = σ.length ∧ ∃ P ρ A, Keep P1 P ∧ Ok P H' σ'' ρ A ∧ OutS Wx fz D σ'' P H' A (foL t b (ds.drop (i + 1)) ρ), fun σ'' H' q => ⟨ds.length - (i + 1), by omega, rfl, q⟩, fun x H' y => ?_⟩
    obtain ⟨rfl, hx⟩ := wk.yld i H x H' kH (by omega) y
    obtain ⟨v, hv, rd0⟩ := rv.get (i := i) (d := ds[i]) (by simp [hlt])
    rw [hx] at hv
    cases hv
    have rd := RD.keep kp _ _ rd0
    rw [List.drop_eq_getElem_cons hlt] at out
    have out : OutS Wx fz D σ' P H' A (match bindT t (.val ds[i]) ρ with
      | some ρ' => kLoop (foL t b (ds.drop (i + 1))) (b ρ')
      | none => .bad) := out
    cases hb : bindT t (.val ds[i]) ρ with
    | none => rw [hb] at out; exact out.elim
    | some ρb =>
      rw [hb] at out
      refine bindT_ok ok rd hb (fun j hj => by rw [ok.len, hlen]; exact hl j hj) fun σ2 A2 o2 s2 hs2 hn2 => ?_
      have z2 : Fz fz σ' σ2 := ⟨hn2, fun j hj => hs2 j fun q => by rw [hf j q] at hj; cases hj⟩
      refine ⟨P, ρb, A2, o2, loop_out (OutS.shift out .refl (fun a ha => .inl (s2.subset ha)) z2) fun P' H' A' σ3 ρ' x o z q => ⟨by omega, by rw [z.1, hn2, hlen], P', ρ', A', kp.trans x.keep, o, q⟩⟩
  · have e : i = ds.length := by omega
    subst e
    rw [List.drop_length] at out
    exact .inl ⟨by rw [lv]; exact wk.stop H kH, out P H A σ' .refl ok .refl .refl⟩
theorem im_forI {K : PySem.W.Frag} {f : List SW.D → Rho → S} {g : Rho → R SW.A} {R1 : It → Hp → Prop} (h : tS Wx fz (fun ρ => kFor f (g ρ)) D σ H)
    (k : ∀ P1 H1 ρ1 A1 ds J, Ok P1 H1 σ ρ1 A1 → Walked P1 J ds → OutS Wx fz D σ P1 H1 A1 (f ds ρ1) → R1 J H1) : iAny K (tE Wx g) σ H R1 := by
  have h' : tS Wx fz (fun ρ => kFrzS (fun d ρ => match items d with
      | some ds => f ds ρ
      | none => .bad) (g ρ)) D σ H := by
    obtain ⟨P, ρ, A, ok, out⟩ := h
    exact ⟨P, ρ, A, ok, out⟩
  refine frzS h' fun P1 H1 ρ1 A1 d v o1 rd out => ?_
  cases d with
  | list ds =>
    rw [RD] at rd
    obtain ⟨a, vs, rfl, h1, h2⟩ := rd
    exact .inl ⟨_, .lst ((Keep.of_le o1.sub).rd _ _ h1), k P1 H1 ρ1 A1 ds _ o1 ⟨vs, _, wk_lst, h2, fun P' H' kp s => (kp.trans (Keep.of_le s)).rd _ _ h1⟩ out⟩
  | tuple ds =>
    rw [RD] at rd
    obtain ⟨a, vs, rfl, h1, h2⟩ := rd
    exact .inl ⟨_, .tup (o1.sub _ _ h1), k P1 H1 ρ1 A1 ds _ o1 ⟨vs, _, wk_tup, h2, fun P' H' kp s => s _ _ (kp.tup _ _ h1)⟩ out⟩
  | str x =>
    rw [RD] at rd
    subst rd
    exact .inl ⟨_, .str x, k P1 H1 ρ1 A1 _ _ o1 ⟨_, _, wk_str, rds_str _, fun _ _ _ _ => trivial⟩ out⟩
  | dict kvs =>
    by_cases hk : (kvs.all fun p => isKey1 p.1) = true
    · have out : OutS Wx fz D σ P1 H1 A1 (match (if (kvs.all fun p => isKey1 p.1) = true then some (kvs.map (·.1)) else none) with
        | some ds => f ds ρ1
        | none => .bad) := out
      rw [if_pos hk] at out
      exact dict_walk o1 rd hk fun P2 H2 J o2 x w => k P2 H2 ρ1 A1 _ J o2 w (out.shift x .refl .refl)
    · have out : OutS Wx fz D σ P1 H1 A1 (match (if (kvs.all fun p => isKey1 p.1) = true then some (kvs.map (·.1)) else none) with
        | some ds => f ds ρ1
        | none => .bad) := out
      rw [if_neg hk] at out
      exact out.elim
  | _ => exact out.elim
/-! ### x[k] = v -/
def rSet (Wx : Wish) (fz : Nat → Bool) (i : Nat) : TSet := fun o y v H Q => ∃ (D : Ends) (σ0 : St) (Nx : St → Hp → Prop) (P : Hp) (ρ : Rho) (A : List Addr) (k d : SW.D), Ok P H σ0 ρ A ∧ σ0[i]? = some (some o) ∧ RD P k y ∧ RD P d v ∧ OutS Wx fz { D with nx := Nx } σ0 P H A (subS i k d ρ) ∧ ∀ H', Nx σ0 H' → Q H'
theorem set_D {X : Cx} {i : Nat} (hu : X.A.units + 65 < cLine) : PSet X (rSet Wx fz i) := by
  intro pins s σ H o y v ov iv u Q I ro ri rv h
  obtain ⟨D, σ0, Nx, P, ρ, A, k, d, ok, hx, rk, rd, out, fin⟩ := h
  simp only [subS] at out
  cases hs : slot ρ i with
  | none => rw [hs] at out; exact out.elim
  | some z =>
    rw [hs] at out
    dsimp only at out
    cases z with
    | val _ => exact out.elim
    | lst zs =>
      cases k with
      | int j =>
        have out : OutS Wx fz { D with nx := Nx } σ0 P H A (match (ixN zs.length j).map fun m => O.lst (zs.set m d) with
          | some o' => .nx (ρ.set i (some o'))
          | none => .bad) := out
        cases hj : ixN zs.length j with
        | none => rw [hj] at out; exact out.elim
        | some m =>
          rw [hj] at out
          obtain ⟨a, vs, e1, h1, h2, up⟩ := ok_ownL ok hs
          rw [hx] at e1
          cases e1
          rw [RD] at rk
          subst rk
          obtain ⟨x', o'⟩ := up _ _ (h2.set rd m)
          exact set_list pins s σ H _ _ v ov iv u Q I ro ri rv ⟨a, vs, j, m, rfl, rfl, h1, by rw [← h2.length]; exact hj, fin _ (out P _ A σ0 x' o' .refl .refl)⟩
      | _ => exact out.elim
    | dct kvs =>
      have out : OutS Wx fz { D with nx := Nx } σ0 P H A (match (if keyFits kvs k = true ∧ kvs.length < sizeLine then some (O.dct (dput kvs k d)) else none) with
        | some o' => .nx (ρ.set i (some o'))
        | none => .bad) := by
        cases k <;> exact out
      split at out
      case h_2 => exact out.elim
      rename_i o' ho
      split at ho
      case isFalse => cases ho
      rename_i hk
      cases ho
      obtain ⟨a, e1, q, up⟩ := ok_own ok hs rfl
      rw [hx] at e1
      cases e1
      obtain ⟨w, dp, ro'⟩ := dct_put q ok.sub hk.1 hk.2 rk rd
      obtain ⟨x', o'⟩ := up _ _ ro'
      cases (show ov = Value.ref a from ro)
      exact dg_setItem (by omega) I dp ri rv fun s' I' => ⟨_, I', fin _ (out P _ A σ0 x' o' .refl .refl)⟩
/-- x[k] = v, the value at hand -/
theorem sub_step {i : Nat} {ek : Rho → R SW.A} {d : SW.D} {v : V} {Nx : St → Hp → Prop} (ok : Ok P H σ ρ A) (rd : RD P d v) {Qn : St → Hp → Prop} (out : OutS Wx fz { D with nx := Nx } σ P H A (kSub1 i ek d ρ)) (fin : ∀ H', Nx σ H' → Qn σ H') : gSub (tVar i) (tE Wx ek) (rSet Wx fz i) v σ H Qn := by
  unfold kSub1 at out
  cases hs : slot ρ i with
  | none => rw [hs] at out; exact out.elim
  | some z =>
    rw [hs] at out
    obtain ⟨o, _, _, _, e1, _⟩ := ok.sl.at' hs
    refine ⟨o, e1, frzS' ok out fun P1 H1 ρ1 A1 k y kp o1 rk out1 => ?_⟩
    exact ⟨D, σ, Nx, P1, ρ1, A1, k, d, o1, e1, rk, RD.keep kp _ _ rd, out1, fin⟩
end
end SW

set_option Elab.async false
set_option linter.all false
set_option maxRecDepth 100000
set_option maxHeartbeats 2000000
/-! a program's statements run as their terms -/
namespace SW
open PySem PySem.Spec L2
open PyProof.Rows hiding St
mutual
def fzS (fz : Nat → Bool) : MS → Bool
  | .asg t _ => t.slots.all fun i => !fz i
  | .par i j _ _ => !fz i && !fz j
  | .aug i _ _ => !fz i
  | .ifS _ a b => fzSs fz a && fzSs fz b
  | .whl _ b => fzSs fz b
  | .forS t _ _ b => (t.slots.all fun i => !fz i) && fzSs fz b
  | _ => true
def fzSs (fz : Nat → Bool) : List MS → Bool
  | [] => true
  | s :: ss => fzS fz s && fzSs fz ss
end
structure SOk (Wx : Wish) (X : Cx) (c : Cfg) (cx : Ctx) (k : Nat) : Prop where
  x : XOk Wx X c cx k
  po : PassesOwn (model X.prog X.w) X.A X.env X.xe
  fn : ∀ x, X.fn x = true
  hs : X.stack = X.env :: X.outer
  hf : X.env.frame = some X.env.locals
theorem imp_PSL {X : Cx} {st : Stmt} {t t' : TS} (h : PS X st t) (q : ∀ D σ H, σ.length = X.N.length → t' D σ H → t D σ H) : PS X st t' := ⟨fun pins s σ H D I w => h.run pins s σ H D I (q _ _ _ I.len w)⟩
section
variable {Wx : Wish} {fz : Nat → Bool} {X : Cx} {c : Cfg} {cx : Ctx} {k n np : Nat}
theorem ps_bad {st : Stmt} : PS X st (tS Wx fz (evS cx np .bad)) := no_PS fun D σ H h => by obtain ⟨P, ρ, A, ok, out⟩ := h; exact out.elim
theorem tg1_at (o : SOk Wx X c cx k) {x : Str} {p : Pos} {i : Nat} (h : cTg1 c (.Name x p) = some i) : X.N[i]? = some x ∧ L2.Loc X.env.scope x ∧ i < X.N.length := by
  have h : (if (isLoc c x && plainN x && decide (slotNo c.N x < c.N.length)) = true then some (slotNo c.N x) else none) = some i := h
  obtain ⟨hh, e⟩ := Option.ite_none_right_eq_some.mp h
  cases e
  simp only [Bool.and_eq_true, decide_eq_true_eq] at hh
  obtain ⟨⟨h1, h2⟩, h3⟩ := hh
  refine ⟨by rw [o.x.N]; exact slot_at h3, ?_, by rw [o.x.N]; exact h3⟩
  unfold isLoc at h1
  unfold L2.Loc
  rw [o.x.sc]
  split at h1 <;> simp_all
theorem tg1_name {e : Expr} {i : Nat} (h : cTg1 c e = some i) : ∃ x p, e = .Name x p := by
  cases e with
  | Name x p => exact ⟨x, p, rfl⟩
  | _ => cases h
theorem tgs_at (o : SOk Wx X c cx k) : ∀ {es : List Expr} {is : List Nat}, cTgs c es = some is → PGs X es (gNames is) ∧ is.length = es.length ∧ (∀ i ∈ is, i < X.N.length) ∧ ∀ env, (assignEach es env).length = es.length ∧ (assignEach es env).findIdx? (·.1) = none
  | [], _, h => by cases h; exact ⟨pgs_nil, rfl, fun i hi => (nomatch hi), fun _ => ⟨rfl, rfl⟩⟩
  | e :: es, is, h => by
    have h : (match cTg1 c e, cTgs c es with
      | some i, some is => some (i :: is)
      | _, _ => none) = some is := h
    cases h1 : cTg1 c e with
    | none => rw [h1] at h; cases h
    | some i =>
      cases h2 : cTgs c es with
      | none => rw [h1, h2] at h; cases h
      | some q =>
        rw [h1, h2] at h
        cases h
        obtain ⟨x, ps, rfl⟩ := tg1_name h1
        obtain ⟨g1, g2, g3⟩ := tg1_at o h1
        obtain ⟨q1, q2, q3, q4⟩ := tgs_at o h2
        refine ⟨pgs_cons (pg_name (by rw [o.x.N]; exact o.x.nodup) g1 g2 (.inl (o.fn x))) q1 rfl, by rw [List.length_cons, List.length_cons, q2], fun j hj => ?_, fun env => ?_⟩
        · rcases List.mem_cons.mp hj with z | z
          · subst z; exact g3
          · exact q3 j z
        · obtain ⟨z1, z2⟩ := q4 env
          refine ⟨by rw [List.length_cons, ← z1]; rfl, ?_⟩
          show List.findIdx? (·.1) ((false, assign (.Name x ps) env) :: assignEach es env) = none
          rw [List.findIdx?_cons, z2]
          rfl
theorem target_S (o : SOk Wx X c cx k) {tg : Expr} {t : MT} (h : cTarget c tg = some t) : PG X tg (gT X.K t) ∧ ∀ i ∈ t.slots, i < X.N.length := by
  cases tg with
  | Name x p =>
    obtain ⟨i, e, rfl⟩ := map_some (show (cTg1 c (.Name x p)).map MT.name = some t from h)
    obtain ⟨g1, g2, g3⟩ := tg1_at o e
    refine ⟨pg_name (by rw [o.x.N]; exact o.x.nodup) g1 g2 (.inl (o.fn x)), fun j hj => ?_⟩
    have : j = i := by simpa [MT.slots] using hj
    rw [this]; exact g3
  | Tuple es q p =>
    obtain ⟨is, e, e2⟩ := Option.bind_eq_some_iff.mp (show (cTgs c es).bind (fun is => if noStar es && is.Nodup then some (MT.tup is) else none) = some t from h)
    obtain ⟨hh, e3⟩ := Option.ite_none_right_eq_some.mp e2
    cases e3
    obtain ⟨q1, q2, q3, q4⟩ := tgs_at o e
    obtain ⟨z1, z2⟩ := q4 X.env
    refine ⟨?_, q3⟩
    show PG _ _ (gTup X.K is.length (gNames is))
    rw [q2]
    exact pg_tup o.x.calm q1 z1 z2
  | _ => cases h
/-- what is shown of all statements -/
def SndS (n : Nat) : Prop := ∀ (Wx : Wish) (fz : Nat → Bool) (X : Cx) (c : Cfg) (cx : Ctx) (k np : Nat), SOk Wx X c cx k → ∀ st, fzS fz (compS n c st) = true → PS X st (tS Wx fz (evS cx np (compS n c st)))
theorem pss_D (S : SndS n) (o : SOk Wx X c cx k) : ∀ {sts : List Stmt}, fzSs fz (sts.map (compS n c)) = true → PSs X sts (tS Wx fz (evSs cx np (sts.map (compS n c))))
  | [], _ => imp_PSs pss_nil fun D σ H h => by
    obtain ⟨P, ρ, A, ok, out⟩ := h
    exact out P H A σ .refl ok .refl .refl
  | st :: sts, h => by
    have h : (fzS fz (compS n c st) && fzSs fz (sts.map (compS n c))) = true := h
    rw [Bool.and_eq_true] at h
    refine imp_PSs (pss_cons (S Wx fz X c cx k np o st h.1) (pss_D S o h.2)) fun D σ H h => ?_
    obtain ⟨P, ρ, A, ok, out⟩ := h
    exact ⟨P, ρ, A, ok, seq_out (f := evSs cx np (sts.map (compS n c))) out⟩
theorem all_not {is : List Nat} (h : (is.all fun i => !fz i) = true) : ∀ i ∈ is, fz i = false := fun i hi => by
  have := List.all_eq_true.mp h i hi
  simpa using this
theorem sw_no {e tg : Expr} {l : Nat} {env : Env} (h : isComp e = false) : swapsWith e (some tg) l env = pure false := by
  cases e <;> first | rfl | cases h
theorem sw_none {e : Expr} {l : Nat} {env : Env} (h : isComp e = false) : swapsWith e none l env = pure false := by
  cases e <;> first | rfl | cases h
def swB (env : Env) (x : Str) (p q : Pos) (scope : Scope) : Bool := env.blockKind == .function && env.kindOf x == some .local && p.line == q.line && !(scope.names.any fun (n, k) => n == x && (k == .local || k == .cell))
theorem sw_val {elt : Expr} {gs : List Comprehension} {scope : Scope} {q p : Pos} {x : Str} {l : Nat} {env : Env} : swapsWith (.ListComp elt gs scope q) (some (.Name x p)) l env = pure (swB env x p q scope) := rfl
theorem sw_valD {kx vx : Expr} {gs : List Comprehension} {scope : Scope} {q p : Pos} {x : Str} {l : Nat} {env : Env} : swapsWith (.DictComp kx vx gs scope q) (some (.Name x p)) l env = pure (swB env x p q scope) := rfl
/-- name = {..} of one line, the name a local -/
theorem ps_setDc {i : Nat} {y : Str} {py : Pos} {kx vx tg iter : Expr} {ifs : List Expr} {scope : Scope} {own : List (Str × Nat)} {pos spos : Pos} {wi : TI} {g : TG} {tt : TT} {tk tv : TE} (hc : X.calm = true) (hN : X.N.Nodup) (hy : X.N[i]? = some y) (hyl : X.env.scope.names.lookup y = some .local)
    (hsw : swapsWith (.DictComp kx vx [⟨tg, iter, ifs, 0⟩] scope pos) (some (.Name y py)) spos.line X.env = pure true) (hi : PI X tg iter wi) (ok : BlkOk X.N X.env.scope scope own)
    (hg : ∀ (s : Shared) (H : Hp) (C : Addr) (cl : List (Str × Addr)) (fp : List Addr), PG (X.blk s H scope (compEnvC scope cl C X.env) fp) tg g) (ht : ∀ (s : Shared) (H : Hp) (C : Addr) (cl : List (Str × Addr)) (fp : List Addr), PTs (X.blk s H scope (compEnvC scope cl C X.env) fp) ifs tt)
    (hk : ∀ (s : Shared) (H : Hp) (C : Addr) (cl : List (Str × Addr)) (fp : List Addr), PE (X.blk s H scope (compEnvC scope cl C X.env) fp) kx tk)
    (he : ∀ (s : Shared) (H : Hp) (C : Addr) (cl : List (Str × Addr)) (fp : List Addr), PE (X.blk s H scope (compEnvC scope cl C X.env) fp) vx tv) (hs : ∀ x, foldedSetIterable iter X.env x = pure x) :
    PS X (.Assign [.Name y py] (.DictComp kx vx [⟨tg, iter, ifs, 0⟩] scope pos) spos) (tAsg (tDc wi g tt tk tv (own.map (·.2))) (gName i)) := by
  refine ⟨fun pins s σ H D I h => ?_⟩
  rw [exec_Assign_Name_used _ _ _ _ hsw]
  refine wpAny_bind (wpAny_standAt (wpAny_bind ?_))
  show wpAny _ X.A (do let _ ← comprehension (.DictComp kx vx [⟨tg, iter, ifs, 0⟩] scope pos) scope X.env (firstIterPos [⟨tg, iter, ifs, 0⟩] pos) newDict false (eval iter X.env) (some (assign (.Name y py) X.env))) _ _ s
  have h : tDc wi g tt tk tv (own.map (·.2)) σ H (fun x H1 => gName i x σ H1 D.nx) := h
  refine wpAny_bind (thn (dc_core (Qf := fun _ s' => SP X pins D .next s') hc hN I hi ok hg ht hk he hs h fun L C s' m H' I' q hn f => ?_) fun _ s' hq => wpAny_pure (wpAny_pure hq))
  show wpAny _ _ (assign (.Name y py) X.env (.ref L)) _ _ _
  refine wpAny_assign_Name (store_ok2 (v := V.ref L) I' hN hy (.inl hyl) rfl (fun s2 I2 ⟨a, sb, ha⟩ => ?_) (.inr hyl))
  obtain ⟨f0, f1, f2, f3, f4, f5⟩ := f
  have haC : C ≠ a := by
    rcases ha with z | z
    · rw [z]; exact f1
    · exact fun e => f4 y a z e.symm
  refine ⟨m, hn.sameBut sb haC, fun h3 sb3 => ?_⟩
  exact ⟨_, H', I2.turned (t' := s2.toks) (fun b o hb e => (sb3.2 b hb).trans e) f0 f1 f3 f4 f5, q⟩
/-- name = value -/
theorem ps_asgN (o : SOk Wx X c cx k) {x : Str} {p pos : Pos} {e : Expr} {i : Nat} (hi : cTg1 c (.Name x p) = some i) (hz : fz i = false) : PS X (.Assign [.Name x p] e pos) (tS Wx fz (evS cx np (.asg (.name i) (compE n c e)))) := by
  obtain ⟨g1, g2, g3⟩ := tg1_at o hi
  have nd : X.N.Nodup := by rw [o.x.N]; exact o.x.nodup
  have fin : ∀ {t : TE}, PS X (.Assign [.Name x p] e pos) (tAsg t (gName i)) → (∀ σ H Q, tE Wx (evE cx (compE n c e)) σ H Q → t σ H Q) → PS X (.Assign [.Name x p] e pos) (tS Wx fz (evS cx np (.asg (.name i) (compE n c e)))) := fun {t} h q =>
    imp_PSL h fun D σ H hl w => q _ _ _ (im_asg (K := X.K) (t := .name i) (fun j hj => by rw [hl]; rw [show j = i by simpa [MT.slots] using hj]; exact g3) (fun j hj => by rw [show j = i by simpa [MT.slots] using hj]; exact hz) w)
  have plain : swapsWith e (some (.Name x p)) pos.line X.env = pure false → PS X (.Assign [.Name x p] e pos) (tS Wx fz (evS cx np (.asg (.name i) (compE n c e)))) := fun hs =>
    fin (ps_set nd g1 g2 (snd_all n Wx X c cx k o.x e).1 hs (.inl (o.fn x))) fun _ _ _ h => h
  have bad : compE n c e = .bad → PS X (.Assign [.Name x p] e pos) (tS Wx fz (evS cx np (.asg (.name i) (compE n c e)))) := fun hb => by
    rw [hb]
    refine no_PS fun D σ H h => ?_
    obtain ⟨P, ρ, A, ok, out⟩ := h
    exact out.elim
  cases e with
  | ListComp elt gens scope q =>
    match gens with
    | [⟨tg, it, ifs, a⟩] =>
      cases a with
      | ofNat m =>
        cases m with
        | zero =>
          have hb := sw_val (elt := elt) (gs := [⟨tg, it, ifs, 0⟩]) (scope := scope) (q := q) (p := p) (x := x) (l := pos.line) (env := X.env)
          cases hB : swB X.env x p q scope with
          | false => rw [hB] at hb; exact plain hb
          | true =>
            rw [hB] at hb
            cases n with
            | zero => exact bad rfl
            | succ n =>
              rcases pe_lcAll (Wx := Wx) (snd_all n) o.x (elt := elt) (tg := tg) (it := it) (ifs := ifs) (scope := scope) (pos := q) with h | h
              · have lc : X.env.scope.names.lookup x = some .local := by
                  unfold swB at hB
                  simp only [Bool.and_eq_true] at hB
                  exact eq_of_beq hB.1.1.2
                obtain ⟨own, wi, g, tt, te, h1, h2, h3, h4, h5, h6, h7⟩ := h
                exact fin (ps_setLc o.x.calm nd g1 lc hb h1 h2 h3 h4 h5 h6) h7
              · exact bad h
        | succ m => exact bad (by cases n <;> rfl)
      | negSucc m => exact bad (by cases n <;> rfl)
    | [] => exact bad (by cases n <;> rfl)
    | ⟨_, _, _, a⟩ :: _ :: _ =>
      refine bad ?_
      cases n with
      | zero => rfl
      | succ n =>
        cases a with
        | ofNat m => cases m <;> rfl
        | negSucc _ => rfl
  | SetComp _ _ _ _ => exact bad (by cases n <;> rfl)
  | DictComp kx vx gens scope q =>
    match gens with
    | [⟨tg, it, ifs, a⟩] =>
      cases a with
      | ofNat m =>
        cases m with
        | zero =>
          have hb := sw_valD (kx := kx) (vx := vx) (gs := [⟨tg, it, ifs, 0⟩]) (scope := scope) (q := q) (p := p) (x := x) (l := pos.line) (env := X.env)
          cases hB : swB X.env x p q scope with
          | false => rw [hB] at hb; exact plain hb
          | true =>
            rw [hB] at hb
            cases n with
            | zero => exact bad rfl
            | succ n =>
              rcases pe_dcAll (Wx := Wx) (snd_all n) o.x (kx := kx) (vx := vx) (tg := tg) (it := it) (ifs := ifs) (scope := scope) (pos := q) with h | h
              · have lc : X.env.scope.names.lookup x = some .local := by
                  unfold swB at hB
                  simp only [Bool.and_eq_true] at hB
                  exact eq_of_beq hB.1.1.2
                obtain ⟨own, wi, g, tt, tk, tv, h1, h2, h3, h4, h5, h5', h6, h7⟩ := h
                exact fin (ps_setDc o.x.calm nd g1 lc hb h1 h2 h3 h4 h5 h5' h6) h7
              · exact bad h
        | succ m => exact bad (by cases n <;> rfl)
      | negSucc m => exact bad (by cases n <;> rfl)
    | [] => exact bad (by cases n <;> rfl)
    | ⟨_, _, _, a⟩ :: _ :: _ =>
      refine bad ?_
      cases n with
      | zero => rfl
      | succ n =>
        cases a with
        | ofNat m => cases m <;> rfl
        | negSucc _ => rfl
  | _ => exact plain rfl
end
end SW

set_option Elab.async false
set_option linter.all false
set_option maxRecDepth 100000
set_option maxHeartbeats 2000000
namespace SW
open PySem PySem.Spec L2
open PyProof.Rows hiding St
section
variable {Wx : Wish} {fz : Nat → Bool} {X : Cx} {c : Cfg} {cx : Ctx} {k n np : Nat}
theorem swS_sole {tg e : Expr} {l : Nat} {env : Env} (h : isComp e = false) : swapsWithSole [tg] e l env = pure false := by
  show swapsWith e (some tg) l env = pure false
  exact sw_no h
theorem not_true {b : Bool} (h : ¬ b = true) : b = false := by cases b <;> first | rfl | exact absurd rfl h
theorem assign_sub {o kE : Expr} {p2 : Pos} (h : isSlice kE = false) (v : Value) : assign (.Subscript o kE p2) X.env v = (do
      let ov ← holding [v] (eval o X.env)
      let iv ← holding [v, ov] (eval kE X.env)
      standAt p2
      holding [v, ov, iv] (setItem ov iv v)
      release [v, ov, iv] []) := by
  cases kE <;> first | rfl | cases h
theorem pg_subD (o : SOk Wx X c cx k) {x : Str} {p p2 : Pos} {kE : Expr} {i : Nat} (hi : cVar c x = some i) (hs : isSlice kE = false) : PG X (.Subscript (.Name x p) kE p2) (gSub (tVar i) (tE Wx (evE cx (compE n c kE))) (rSet Wx fz i)) :=
  pg_sub (pe_varD o.x hi) (snd_all n Wx X c cx k o.x kE).1 (set_D o.x.hu) (assign_sub hs)
theorem ps_subD (o : SOk Wx X c cx k) {x : Str} {p p2 pos : Pos} {kE e : Expr} {i : Nat} (hi : cVar c x = some i) (hc : isComp e = false) (hs : isSlice kE = false) :
    PS X (.Assign [.Subscript (.Name x p) kE p2] e pos) (tS Wx fz (evS cx np (.sub i (compE n c kE) (compE n c e)))) := by
  refine imp_PS (ps_asg (snd_all n Wx X c cx k o.x e).1 (pg_subD (Wx := Wx) (fz := fz) (n := n) o hi hs) (swS_sole hc) rfl rfl) fun D σ H h => ?_
  refine frzS (f := kSub1 i (evE cx (compE n c kE))) h fun P1 H1 ρ1 A1 d v o1 rd out => ?_
  exact sub_step (D := D) (Nx := D.nx) o1 rd out fun H' q => q
theorem no_swap2 {q1 q2 : Nat} {p5 p6 : Pos} {es : List Expr} {env : Env} {t1 t2 : Expr} (h1 : ∀ x p, t1 ≠ .Name x p) : swappedStores [.Tuple [t1, t2] q1 p5] (.Tuple es q2 p6) env = pure none := by
  unfold swappedStores
  dsimp only
  split
  · rfl
  · split
    · rfl
    · have e : ∀ (f : Expr → Option Str), f t1 = none → ((List.filterMap f [t1, t2]).length != [t1, t2].length) = true := by
        intro f hf
        rw [List.filterMap_cons_none hf]
        have : (List.filterMap f [t2]).length ≤ 1 := by
          have := List.length_filterMap_le f [t2]
          simpa using this
        simp only [bne_iff_ne, ne_eq, List.length_cons, List.length_nil]
        omega
      split
      · rfl
      · rename_i hh
        rw [e _ ?_] at hh
        · exact absurd rfl hh
        · cases t1 <;> first | rfl | exact absurd rfl (h1 _ _)
theorem ps_swpD (o : SOk Wx X c cx k) {x : Str} {p p2 p3 p4 p5 p6 pos : Pos} {q1 q2 : Nat} {k1 k2 e1 e2 : Expr} {i : Nat} (hi : cVar c x = some i) (hst : noStar [e1, e2] = true) (hs1 : isSlice k1 = false) (hs2 : isSlice k2 = false) :
    PS X (.Assign [.Tuple [.Subscript (.Name x p) k1 p2, .Subscript (.Name x p3) k2 p4] q1 p5] (.Tuple [e1, e2] q2 p6) pos) (tS Wx fz (evS cx np (.swp i (compE n c k1) (compE n c k2) (compE n c e1) (compE n c e2)))) := by
  have pg := pg_tup (X := X) (k := q1) (pos := p5) o.x.calm (pgs_cons (pg_subD (Wx := Wx) (fz := fz) (n := n) (p := p) (p2 := p2) o hi hs1) (pgs_cons (pg_subD (Wx := Wx) (fz := fz) (n := n) (p := p3) (p2 := p4) o hi hs2) pgs_nil rfl) rfl) (n := 2) rfl rfl
  refine imp_PS (ps_asg (pe_tup (pa_vals (Wx := Wx) (n := n) (snd_all n) o.x hst)) pg (swS_sole rfl) (no_swap2 fun _ _ => Expr.noConfusion) rfl) fun D σ H h => ?_
  refine valsS (f := kSwp2 i (evE cx (compE n c k1)) (evE cx (compE n c k2))) (m := 2) (fun ρ ds ρ' e => by rw [evVs_len _ _ _ _ e]; rfl) h rfl (fun _ _ => rfl) fun P1 H1 ρ1 A1 ds vs hl o1 rs out => ?_
  match ds, hl, rs, out with
  | [d1, d2], _, rs, out =>
    obtain ⟨w1, w2, rfl, r1, r2⟩ := two_inv rs
    refine ⟨by show 2 ≤ sizeLine; decide, fun q hq => ?_⟩
    have o2 := o1.new (.tup [w1, w2]) hq
    have out : OutS Wx fz D σ P1 H1 A1 (kSeq (kSub1 i (evE cx (compE n c k2)) d2) (kSub1 i (evE cx (compE n c k1)) d1 ρ1)) := out
    have out2 := out.shift (ext_new (.tup [w1, w2]) hq o1.sub) .refl .refl
    refine ⟨q, [w1, w2], rfl, .of upd_same, rfl, w1, [w2], rfl, ?_⟩
    refine sub_step (D := D) (Nx := fun σ' H' => ∃ P' ρ' A', Keep P1 P' ∧ Ok P' H' σ' ρ' A' ∧ OutS Wx fz D σ' P' H' A' (kSub1 i (evE cx (compE n c k2)) d2 ρ')) o2 r1 (seq_outN out2 fun P' H' A' σ' ρ' x' o' z' q' => ⟨P', ρ', A', x'.keep, o', q'⟩) fun H' hq' => ?_
    obtain ⟨P', ρ', A', kp, o', out'⟩ := hq'
    refine ⟨w2, [], rfl, ?_⟩
    exact sub_step (D := D) (Nx := D.nx) o' (RD.keep kp _ _ r2) out' fun H'' q'' => ⟨rfl, q''⟩
/-! ### x op= e -/
theorem im_aug {op : Operator} {i : Nat} {g : Rho → R SW.A} {D : Ends} {σ : St} {H : Hp} {ti : TIp} (hl : i < σ.length) (hf : fz i = false)
    (hop : ∀ d e z P H x y (Q : VK), augO op d e = some z → Vw P H d x → Vw P H e y → (∀ w, RD P z w → Q w H) → ti x y H Q) (h : tS Wx fz (kAug0 i op g) D σ H) : tAug i (tE Wx g) ti D σ H := by
  obtain ⟨P, ρ, A, ok, out⟩ := h
  unfold kAug0 at out
  cases hs : slot ρ i with
  | none => rw [hs] at out; exact out.elim
  | some o =>
    rw [hs] at out
    cases o with
    | val d =>
      obtain ⟨x, A1, B, A2, e1, _, q, _⟩ := ok.sl.at' hs
      refine ⟨x, e1, P, ρ, A, ok, ?_⟩
      have out : OutS Wx fz D σ P H A (kAug i op (.val d) (g ρ)) := out
      cases e : g ρ with
      | bad => rw [e] at out; exact out.elim
      | exc ex ρ1 => rw [e] at out; exact out.exc_
      | ok y ρ1 =>
        rw [e] at out
        intro P1 H1 A1 B1 v x1 o1 r1 d1 n1
        simp only [kAug] at out
        cases hk : look y ρ1 with
        | none => rw [hk] at out; exact out.elim
        | some e' =>
          rw [hk] at out
          dsimp only at out
          have ed : O.data (.val d) = d := rfl
          rw [ed] at out
          cases ha : augO op d e' with
          | none => rw [ha] at out; exact out.elim
          | some z =>
            rw [ha] at out
            refine hop d e' z P1 H1 x v _ ha (RD.vw o1.sub (RD.keep x1.keep _ _ q.2)) (o1.vw r1 hk) fun w rw' => ?_
            have out2 := out.shift x1 n1.left (Fz.refl (fz := fz) (σ := σ))
            exact bind_name (o := .val z) (B := []) o1 ⟨rfl, rw'⟩ (by rw [List.append_nil]; exact o1.nd) hl hf (by rw [List.append_nil]; exact out2)
    | _ => exact out.elim
theorem aug_add : ∀ d e z P H x y (Q : VK), augO .Add d e = some z → Vw P H d x → Vw P H e y → (∀ w, RD P z w → Q w H) → ipI (fun i j => i + j) x y H Q := by
  intro d e z P H x y Q h vd ve k
  cases d with
  | int i =>
    cases e with
    | int j => cases h; exact ⟨i, j, vw_int vd, vw_int ve, k _ rd_int⟩
    | _ => cases h
  | _ => cases h
theorem aug_sub : ∀ d e z P H x y (Q : VK), augO .Sub d e = some z → Vw P H d x → Vw P H e y → (∀ w, RD P z w → Q w H) → ipI (fun i j => i - j) x y H Q := by
  intro d e z P H x y Q h vd ve k
  cases d with
  | int i =>
    cases e with
    | int j => cases h; exact ⟨i, j, vw_int vd, vw_int ve, k _ rd_int⟩
    | _ => cases h
  | _ => cases h
theorem ps_augD (o : SOk Wx X c cx k) {x : Str} {p pos : Pos} {e : Expr} {i : Nat} {op : Operator} (hop : op = .Add ∨ op = .Sub) (hi : cTg1 c (.Name x p) = some i) (hz : fz i = false) : PS X (.AugAssign (.Name x p) op e pos) (tS Wx fz (evS cx np (.aug i op (compE n c e)))) := by
  obtain ⟨g1, g2, g3⟩ := tg1_at o hi
  have nd : X.N.Nodup := by rw [o.x.N]; exact o.x.nodup
  rcases hop with rfl | rfl
  · exact imp_PSL (ps_aug nd g1 g2 (snd_all n Wx X c cx k o.x e).1 ip_add (.inl (o.fn x))) fun D σ H hl h => im_aug (by rw [hl]; exact g3) hz aug_add h
  · exact imp_PSL (ps_aug nd g1 g2 (snd_all n Wx X c cx k o.x e).1 ip_sub (.inl (o.fn x))) fun D σ H hl h => im_aug (by rw [hl]; exact g3) hz aug_sub h
/-! ### loops -/
theorem evSs_eq {c : Ctx} {np : Nat} {b : List MS} : tS Wx fz (evSs c np b) = tS Wx fz (evSs c np b) := rfl
theorem ps_whlD (o : SOk Wx X c cx k) {t : Expr} {b : List Stmt} {pos : Pos} (hb : PSs X b (tS Wx fz (evSs cx np (b.map (compS n c))))) : PS X (.While t b [] pos) (tS Wx fz (evS cx np (.whl (compE n c t) (b.map (compS n c))))) :=
  imp_PS (ps_while o.po (snd_all n Wx X c cx k o.x t).2 hb) fun D σ H h => im_whl (n := cx.W) h
theorem ps_forD (o : SOk Wx X c cx k) {tg it : Expr} {b : List Stmt} {pos : Pos} {t : MT} (hs : isSet it = false) (ht : cTarget c tg = some t) (hz : (t.slots.all fun i => !fz i) = true) (hb : PSs X b (tS Wx fz (evSs cx np (b.map (compS n c))))) :
    PS X (.For tg it b [] pos) (tS Wx fz (evS cx np (match rngArgs c it with
      | some args => .forS t true (args.map (compE n c)) (b.map (compS n c))
      | none => .forS t false [compE n c it] (b.map (compS n c))))) := by
  obtain ⟨g1, g2⟩ := target_S o ht
  have hf := all_not hz
  cases hr : rngArgs c it with
  | none =>
    refine imp_PSL (ps_for o.po o.x.calm (pi_any (snd_all n Wx X c cx k o.x it).1) g1 hb (no_setIter hs)) fun D σ H hl h => ?_
    refine im_forI (f := foL t (evSs cx np (b.map (compS n c)))) h fun P1 H1 ρ1 A1 ds J o1 w out => ?_
    exact im_forW (fun i hi => by rw [hl]; exact g2 i hi) hf o1 w out
  | some args =>
    obtain ⟨p2, pos2, rfl, q1, q2, q3, q4⟩ := rng_at hr
    obtain ⟨g, pl⟩ := gl_of o.x q1
    have hm := o.x.free "range" (by simpa using q2)
    have hlen : ∀ ρ ds ρ', evVs cx (args.map (compE n c)) ρ = .ok ds ρ' → ds.length = args.length := fun ρ ds ρ' e => by rw [evVs_len _ _ _ _ e, List.length_map]
    have conv : ∀ (D : Ends) (σ : St) (H : Hp), tS Wx fz (evS cx np (.forS t true (args.map (compE n c)) (b.map (compS n c)))) D σ H → tS Wx fz (fun ρ => kForR (foL t (evSs cx np (b.map (compS n c)))) (evVs cx (args.map (compE n c)) ρ)) D σ H := fun _ _ _ h => h
    match args, q3, q4, hlen, conv, hs, hr with
    | [a], g3, _, hlen, conv, hs, _ =>
      refine imp_PSL (ps_for o.po o.x.calm (pi_range1 g hm (pa_vals (Wx := Wx) (snd_all n) o.x g3) (star_cons g3)) g1 hb (no_setIter hs)) fun D σ H hl h => ?_
      refine valsS (f := kForR (foL t (evSs cx np (b.map (compS n c))))) hlen (conv _ _ _ h) rfl (fun _ _ => rfl) fun P1 H1 ρ1 A1 ds vs hl1 o1 rs out => ?_
      simp only [kForR] at out
      cases hd : rngD ds with
      | none => rw [hd] at out; exact out.elim
      | some is =>
        rw [hd] at out
        obtain ⟨j, e, s1, s2, w⟩ := rng_w1 hl1 rs hd
        exact ⟨j, e, s1, s2, im_forW (fun i hi => by rw [hl]; exact g2 i hi) hf o1 w out⟩
    | [a, b'], g3, _, hlen, conv, hs, _ =>
      refine imp_PSL (ps_for o.po o.x.calm (pi_range2 g hm (pa_vals (Wx := Wx) (snd_all n) o.x g3) (by rw [star_cons g3, star_cons (noStar_tail g3)]; rfl) (star_cons (noStar_tail g3))) g1 hb (no_setIter hs)) fun D σ H hl h => ?_
      refine valsS (f := kForR (foL t (evSs cx np (b.map (compS n c))))) hlen (conv _ _ _ h) rfl (fun _ _ => rfl) fun P1 H1 ρ1 A1 ds vs hl1 o1 rs out => ?_
      simp only [kForR] at out
      cases hd : rngD ds with
      | none => rw [hd] at out; exact out.elim
      | some is =>
        rw [hd] at out
        obtain ⟨i, j, e, s, w⟩ := rng_w2 hl1 rs hd
        exact ⟨i, j, e, s, im_forW (fun i hi => by rw [hl]; exact g2 i hi) hf o1 w out⟩
    | [], _, h, _, _, _, _ => simp at h
    | _ :: _ :: _ :: _, _, h, _, _, _, _ => simp at h
theorem ps_ifD (o : SOk Wx X c cx k) {t : Expr} {a b : List Stmt} {pos : Pos} (ha : PSs X a (tS Wx fz (evSs cx np (a.map (compS n c))))) (hb : PSs X b (tS Wx fz (evSs cx np (b.map (compS n c))))) : PS X (.If t a b pos) (tS Wx fz (evS cx np (.ifS (compE n c t) (a.map (compS n c)) (b.map (compS n c))))) := by
  refine imp_PS (ps_if (snd_all n Wx X c cx k o.x t).2 ha hb) fun D σ H h => ?_
  refine tstS (y := evSs cx np (a.map (compS n c))) (n := evSs cx np (b.map (compS n c))) h fun H1 d hy hn => ⟨d, rfl, ?_⟩
  cases d with
  | true => rw [if_pos rfl]; exact hy rfl
  | false => rw [if_neg Bool.false_ne_true]; exact hn rfl
theorem ps_tupD (o : SOk Wx X c cx k) {ts : List Expr} {q : Nat} {p pos : Pos} {e : Expr} {t : MT} (hc : isComp e = false) (hn : ∀ es q p, e ≠ .Tuple es q p) (ht : cTarget c (.Tuple ts q p) = some t) (hz : (t.slots.all fun i => !fz i) = true) : PS X (.Assign [.Tuple ts q p] e pos) (tS Wx fz (evS cx np (.asg t (compE n c e)))) := by
  obtain ⟨g1, g2⟩ := target_S o ht
  refine imp_PSL (ps_asg (snd_all n Wx X c cx k o.x e).1 g1 (swS_sole hc) ?_ rfl) fun D σ H hl h => im_asg (K := X.K) (fun i hi => by rw [hl]; exact g2 i hi) (all_not hz) h
  cases e <;> first | rfl | exact absurd rfl (hn _ _ _)
end
end SW

set_option Elab.async false
set_option linter.all false
set_option maxRecDepth 100000
set_option maxHeartbeats 2000000
/-! raise C(x); try: return .. except C as e: return (w, e.at) -/
namespace SW
open PySem PySem.Spec L2
open PyProof.Rows hiding St
theorem Takes.impL {X : Cx} {W W' : WX} (t : Takes X W) (h : ∀ c d σ H, σ.length = X.N.length → W' c d σ H → W c d σ H) : Takes X W' :=
  fun u s' ⟨a, B, sI, pins, σ, H, cls, d, e, I, nb, up, sky, na, os, ag, w⟩ => t u s' ⟨a, B, sI, pins, σ, H, cls, d, e, I, nb, up, sky, na, os, ag, h _ _ _ _ I.len w⟩
/-! ### clauses with a name, each ending in a return -/
abbrev HRead := Addr → Value → Option Addr → TS
/-- what the clauses wish, one after the other -/
def wNam (K : PySem.W.Frag) (i : Nat) (Q : VK) : List (Value × HRead) → WX
  | [] => fun _ _ _ _ => False
  | (c, ts) :: r => fun cls d σ H => (PySem.W.exmOne K cls c = some true ∧ ∀ a, H a = none → ts a cls d { nx := fun _ _ => False, rt := Q } (σ.set i (some (.ref a))) H) ∨ (PySem.W.exmOne K cls c = some false ∧ wNam K i Q r cls d σ H)
inductive HdN (X : Cx) (n : Str) : List ExceptHandler → List (Value × HRead) → Prop
  | nil : HdN X n [] []
  | cons {x : Str} {c : Value} {ts : HRead} {b₀ : Stmt} {suite : List Stmt} {np pos' : Pos} {hds : List ExceptHandler} {l : List (Value × HRead)} (hc : L2.Names X x c)
      (hsu : ∀ (a : Addr) (oe : Obj) (cls : Value) (d : Option Addr) (pn : List (Addr × Obj)), Zc cls d oe → (∃ vs, oe.data = .fields vs) → PSs (X.suite a ((a, oe) :: pn)) (b₀ :: suite) (ts a cls d)) (r : HdN X n hds l) :
      HdN X n (.ExceptHandler (some (.Name x np)) (some n) (b₀ :: suite) pos' :: hds) ((c, ts) :: l)
section
variable {X : Cx} {n : Str} {i : Nat} {pins : List (Addr × Obj)} {D : Ends}
theorem hdn_run (hs : X.stack = X.env :: X.outer) (hf : X.env.frame = some X.env.locals) (hN : X.N.Nodup) (hi : X.N[i]? = some n) (hln : X.env.kindOf n = some .local) (ok : X.Ok)
    {a : Addr} {B : Heap} {sI : Shared} {σ : St} {H : Hp} {cls : Value} {d : Option Addr} (J : Inv X pins σ H sI) (nb : ∀ b o, sI.heap.get? b = some o → b ∉ frs X.stack → B.get? b = some o) (na : H a = none) {s : Shared} (os : s.os = sI.os) (ag : AllBare s.gens) (up : sI.heap.UpToSlots s.heap)
    (fl : HandSPX.FlyingZ B (X.env :: X.outer) a (Zc cls d) s.heap) {hds : List ExceptHandler} {l : List (Value × HRead)} (hh : HdN X n hds l) (w : wNam X.K i D.rt l cls d σ H) :
    wpAny (model X.prog X.w) X.A (handleBy (.ref a) X.env hds) (SP X pins D) X.xe s := by
  have J3 : Inv X pins σ H { s with heap := s.heap } := J.landed nb fl.1 up os ag
  have land : ∀ h', HandSPX.FlyingZ B (X.env :: X.outer) a (Zc cls d) h' → s.heap.UpToSlots h' → ∃ oe vs, h'.get? a = some oe ∧ Zc cls d oe ∧ oe.data = .fields vs ∧ Inv (X.suite a ((a, oe) :: (X.pn ++ pins))) [] σ H { s with heap := h' } := fun h' fl' up' => by
    obtain ⟨oe, vs, he, hz, hd⟩ := fl'.there
    have nfr : a ∉ frs (X.env :: X.outer) := fun hm => by
      obtain ⟨_, o', e', hnf⟩ := fl'.2.2.1.mem hm
      rw [he] at e'
      cases e'
      exact hnf _ hd
    have Jh : Inv X pins σ H { s with heap := h' } := J.landed nb fl'.1 (up.trans up') os ag
    refine ⟨oe, vs, he, hz, hd, Jh.suite he hd na (fun z => nfr (List.mem_filterMap.mpr ⟨X.env, List.mem_cons_self, by rw [hf, z]⟩)) fun hm => ?_⟩
    obtain ⟨e, h1, h2⟩ := List.mem_filterMap.mp hm
    exact nfr (List.mem_filterMap.mpr ⟨e, List.mem_cons_of_mem _ h1, h2⟩)
  obtain ⟨oe, vs, he, hz, hd, S⟩ := land s.heap fl (Heap.UpToSlots.refl _)
  induction hh with
  | nil => exact w.elim
  | @cons x c ts b₀ suite np pos' hds2 l2 hc hsu r ih =>
    refine wpAny_handleBy_cons (codeAny_handlers_test ?_) (by intro q; cases q)
    have LT : PySem.W.Looks (model X.prog X.w) s.heap (typeOf (.ref a)) cls := fun A Q E s' k q => wpAny_typeOf_ref (k _ _ he) (by rw [hz.1]; exact q)
    have test : ∀ {Q : Value → Shared → Prop} {E : Value → Shared → Prop}, Q c s → wpAny (model X.prog X.w) (X.A.mark (some (.ref a))) (eval (.Name x np) X.env) Q E s := fun {Q E} q => by
      obtain ⟨hg, hdbg, hm | ⟨hm, hv, hnn⟩⟩ := hc
      · exact ld_glob (X := X.suite a ((a, oe) :: (X.pn ++ pins))) S hg hm q hdbg
      · exact ld_blt (X := X.suite a ((a, oe) :: (X.pn ++ pins))) S hg hm hv q hnn hdbg
    refine test ?_
    rcases w with ⟨hb, hyes⟩ | ⟨hb, hno⟩
    · have LM := PySem.W.exm_one (M := model X.prog X.w) J3.kIn LT hb
      refine LM.here ?_
      refine codeAny_handlers_suite_as (HandSPX.lands_againZ fl fun h4 fl4 up4 => ?_)
      obtain ⟨oe4, vs4, he4, hz4, hd4, S4⟩ := land h4 fl4 up4
      refine store_ok (X := X.suite a ((a, oe4) :: (X.pn ++ pins))) (v := .ref a) S4 hN hi (.inl hln) rfl (fun s5 S5 => ?_) (.inr hln)
      refine wpAny_mono ((hsu a oe4 cls d (X.pn ++ pins) hz4 ⟨_, hd4⟩).run [] s5 _ H _ S5 (hyes a na)) (fun f s6 hsp => ?_) (fun _ _ z => False.elim z)
      cases f with
      | ret u =>
        obtain ⟨v6, σ6, H6, S6, r6, q6⟩ := hsp
        exact gone_ok (S6.unsuite ok) hN hi hln fun s7 J7 => ⟨_, _, _, J7, r6, q6⟩
      | next =>
        obtain ⟨_, _, _, q6⟩ := hsp
        exact q6.elim
      | brk =>
        obtain ⟨_, _, _, q6⟩ := hsp
        exact q6.elim
      | cont =>
        obtain ⟨_, _, _, q6⟩ := hsp
        exact q6.elim
    · have LM := PySem.W.exm_one (M := model X.prog X.w) J3.kIn LT hb
      exact LM.here (ih hno)
theorem ps_try_n {body : List Stmt} {h₀ : ExceptHandler} {hds : List ExceptHandler} {l : List (Value × HRead)} {pos : Pos} {tb : WX → TS} (hs : X.stack = X.env :: X.outer) (hf : X.env.frame = some X.env.locals) (hN : X.N.Nodup) (hi : X.N[i]? = some n) (hln : X.env.kindOf n = some .local)
    (hb : ∀ (W : WX) (pn : List (Addr × Obj)) (xe : Value → Shared → Prop), Takes (X.tr pn xe) W → PassesOwn (model X.prog X.w) X.A X.env xe → PSs (X.tr pn xe) body (tb W)) (hh : HdN X n (h₀ :: hds) l) :
    PS X (.Try body (h₀ :: hds) [] [] pos) (fun D σ H => tb (wNam X.K i D.rt l) D σ H) := by
  refine ⟨fun pins s σ H D I h => ?_⟩
  have ok := I.ok
  have hfr : X.A.frames = some (X.env :: X.outer) := by rw [ok.frames, hs]
  refine wpAny_Try_except (wpAny_mono ((hb (wNam X.K i D.rt l) (X.pn ++ pins) (fun e s₁ => wpAny (model X.prog X.w) X.A (noteFrame e X.env) (fun _ s₂ => wpAny (model X.prog X.w) X.A (setFlight e none) (fun _ s₃ =>
    wpAny (model X.prog X.w) X.A (handleBy e X.env (h₀ :: hds)) (SP X pins D) X.xe s₃) X.xe s₂) X.xe s₁) (fun u s' xx => ?_) PassesOwn.looking).run [] s σ H D (I.toTry _) h) (fun f s1 hsp => ?_) (fun e s1 he => he))
  · obtain ⟨a, B, sI, pins', σ', H', cls, d, rfl, J', nb, up, sky, na, os, ag, w⟩ := xx
    have sky' : Sky B (X.env :: X.outer) a (Zc cls d) X.env.locals s'.heap := by rw [← hs]; exact sky
    exact Sky.land Zc.steady hfr hf sky' fun h3 fl3 up3 => hdn_run (s := { s' with heap := h3 }) hs hf hN hi hln ok (J'.ofTry ok) nb na os ag (up.trans up3) fl3 hh w
  · cases f with
    | next =>
      obtain ⟨σ', H', J', q⟩ := hsp
      exact wpAny_execs_nil ⟨σ', H', J'.ofTry ok, q⟩
    | ret u =>
      obtain ⟨v, σ', H', J', r, q⟩ := hsp
      exact ⟨v, σ', H', J'.ofTry ok, r, q⟩
    | brk =>
      obtain ⟨σ', H', J', q⟩ := hsp
      exact ⟨σ', H', J'.ofTry ok, q⟩
    | cont =>
      obtain ⟨σ', H', J', q⟩ := hsp
      exact ⟨σ', H', J'.ofTry ok, q⟩
end
/-! ### raise -/
section
variable {Wx : Wish} {fz : Nat → Bool} {X : Cx} {c : Cfg} {cx : Ctx} {k n np : Nat}
theorem ps_rzD (o : SOk Wx X c cx k) {C : Str} {e : Expr} {p pos pos2 : Pos} (hg : isGl c C = true) (hC : C ∈ c.exc) (hs : noStar [e] = true) : PS X (.Raise (some (.Call (.Name C p) [e] [] pos)) none pos2) (tS Wx fz (evS cx np (.rz C (compE n c e)))) := by
  obtain ⟨g, pl⟩ := gl_of o.x hg
  obtain ⟨d1, _, _⟩ := plain_of pl
  obtain ⟨Ca, T⟩ := o.x.exc.cls C hC
  obtain ⟨E, tk, hw⟩ := o.x.pass
  have ne : c.exc ≠ [] := fun z => by rw [z] at hC; cases hC
  refine imp_PS (ps_raise o.x.calm tk (pmk_x T (o.x.exc.sup ne) o.x.room g (pa_cons (snd_all n Wx X c cx k o.x e).1 pa_nil (star_cons hs)) d1 (star_cons hs))) fun D σ H h => ?_
  refine frzS (f := fun d ρ => .exc ⟨C, d⟩ ρ) h fun P1 H1 ρ1 A1 d v o1 rd out dd hd => ?_
  have w := hw _ _ _ _ ((show OutS Wx fz D σ P1 H1 A1 (.exc ⟨C, d⟩ ρ1) from out) P1 H1 A1 σ .refl o1 .refl .refl)
  refine w P1 (upd H1 dd (.xd [("name", .str C), ("at", v)])) _ _ (ext_new _ hd o1.sub) (fun a u q => ?_) ⟨hC, T.mgC, dd, _, v, rfl, upd_same, rfl, rd⟩
  rw [upd_ne (fun z => by subst z; rw [o1.sub _ _ q] at hd; cases hd)]
  exact o1.sub a u q
/-! ### try -/
/-- return (w, e.at) -/
def tHdl (K : PySem.W.Frag) (i : Nat) (w : Str) : HRead := fun a cls d D σ H => ∃ C, cls = .ref C ∧ XfC K C ∧ PySem.W.findIn K (.ref C) "at" = some none ∧ tRet (tTup (tCons (tC (.str w)) (tCons (tXf a cls d C "at" (tVar i)) tNil))) D σ H
theorem hdl_ok {i : Nat} {x : Str} {w : Str} {j1 q : Nat} {p1 p2 p3 p4 p5 : Pos} (hN : X.N[i]? = some x) (hv : Vis X.env.scope x) (hd1 : (x == ("__debug__" : Str)) = false) (hd2 : (x == ("__classdict__" : Str)) = false)
    (a : Addr) (oe : Obj) (cls : Value) (d : Option Addr) (pn : List (Addr × Obj)) (hz : Zc cls d oe) (hf : ∃ vs, oe.data = .fields vs) :
    PSs (X.suite a ((a, oe) :: pn)) [.Return (some (.Tuple [.Constant (.str w) j1 p1, .Attribute (.Name x p2) "at" p3] q p4)) p5] (tHdl X.K i w a cls d) := by
  refine ⟨fun pins s σ H D I h => ?_⟩
  obtain ⟨C, rfl, T, hno, h⟩ := h
  have hx : PE (X.suite a ((a, oe) :: pn)) (.Name x p2) (tVar i) := pe_var (X := X.suite a ((a, oe) :: pn)) hN hv hd1 hd2
  have := pss_cons (ps_ret (pos := p5) (pe_tup (x1 := q) (pos := p4) (pa_cons (X := X.suite a ((a, oe) :: pn)) (pe_str (x := w) (j := j1) (pos := p1)) (pa_cons (pe_xf (pos := p3) T hno hz hf hx) pa_nil)))) (pss_nil (X := X.suite a ((a, oe) :: pn)))
  exact this.run pins s σ H D I h
theorem cHdl_inv {i : Nat} {h : ExceptHandler} {p : Str × Str} (e : cHdl c i h = some p) : ∃ x p1 j p2 p3 p4 q p5 p6 p7, h = .ExceptHandler (some (.Name p.1 p1)) (some x) [.Return (some (.Tuple [.Constant (.str p.2) j p2, .Attribute (.Name x p3) "at" p4] q p5)) p6] p7 ∧
    isGl c p.1 = true ∧ (p.1 ∈ c.exc ∨ (p.1 = ("SealError" : Str) ∧ c.exc ≠ [])) ∧ cTg1 c (.Name x default) = some i ∧ c.sc.names.lookup x = some .local := by
  unfold cHdl at e
  split at e
  case h_2 => cases e
  rename_i C p1 x w j p2 y p3 a p4 q p5 p6 p7
  obtain ⟨hh, e2⟩ := Option.ite_none_right_eq_some.mp e
  cases e2
  simp only [Bool.and_eq_true, Bool.or_eq_true, decide_eq_true_eq, beq_iff_eq, Bool.not_eq_true', List.isEmpty_eq_false_iff, List.contains_iff_mem] at hh
  obtain ⟨⟨⟨⟨⟨h1, h2⟩, h3⟩, h4⟩, h5⟩, h6⟩ := hh
  subst h3 h4
  exact ⟨x, p1, j, p2, p3, p4, q, p5, p6, p7, rfl, h1, h2, h5, h6⟩
def hdlL (K : PySem.W.Frag) (mg : Str → Option Value) (i : Nat) (hs : List (Str × Str)) : List (Value × HRead) := hs.map fun h => ((mg h.1).getD .none, tHdl K i h.2)
theorem hdls_ok (o : SOk Wx X c cx k) {i : Nat} {x : Str} (hN : X.N[i]? = some x) : ∀ {hs : List ExceptHandler} {hs' : List (Str × Str)}, cHdls c i hs = some hs' → HdN X x hs (hdlL X.K X.mg i hs')
  | [], _, h => by cases h; exact .nil
  | h :: hs, hs', e => by
    have e : (match cHdl c i h, cHdls c i hs with
      | some p, some q => some (p :: q)
      | _, _ => none) = some hs' := e
    cases e1 : cHdl c i h with
    | none => rw [e1] at e; cases e
    | some p =>
      cases e2 : cHdls c i hs with
      | none => rw [e1, e2] at e; cases e
      | some q =>
        rw [e1, e2] at e
        cases e
        obtain ⟨y, p1, j, p2, p3, p4, q', p5, p6, p7, rfl, g1, g2, g3, g4⟩ := cHdl_inv e1
        obtain ⟨n1, n2, n3⟩ := tg1_at o g3
        rw [hN] at n1
        cases n1
        obtain ⟨Hh, hm, _⟩ := o.x.exc.hdl _ g2
        obtain ⟨gg, pl⟩ := gl_of o.x g1
        have plx : plainN x = true := by
          have g3' : (if (isLoc c x && plainN x && decide (slotNo c.N x < c.N.length)) = true then some (slotNo c.N x) else none) = some i := g3
          obtain ⟨hh, _⟩ := Option.ite_none_right_eq_some.mp g3'
          simp only [Bool.and_eq_true] at hh
          exact hh.1.2
        obtain ⟨d1, d2, _⟩ := plain_of plx
        refine .cons (b₀ := _) (suite := []) ⟨gg, (plain_of pl).1, .inl ?_⟩ (fun a oe cls d pn hz hf => hdl_ok hN (.inl (by rw [o.x.sc]; exact g4)) d1 d2 a oe cls d pn hz hf) (hdls_ok o hN e2)
        rw [hm]
        rfl
theorem wNam_of {K : PySem.W.Frag} {mg : Str → Option Value} {xl : List Str} {prog : Program} {w : World} (A : XcAll prog w K mg xl) {i : Nat} {Q : VK} {P H : Hp} {σ : St} {e : Exn} {cls : Value} {d : Option Addr} (x : ExcAt mg xl P H e cls d) (hi : i < σ.length) :
    ∀ {hs : List (Str × Str)} {h : Str × Str}, (∀ h ∈ hs, h.1 ∈ xl ∨ (h.1 = ("SealError" : Str) ∧ xl ≠ [])) → hs.find? (fun h => catches h.1 e.cls) = some h → (∀ (v : V) (p : Addr), H p = none → RD P e.arg v → Q (.ref p) (upd H p (.tup [.str h.2, v]))) → wNam K i Q (hdlL K mg i hs) cls d σ H
  | [], _, _, e1, _ => by cases e1
  | g :: hs, h, hm, e1, k => by
    obtain ⟨xm, xc, dd, fs, v, rfl, hd, hl, rd⟩ := x
    obtain ⟨C, T⟩ := A.cls _ xm
    have ec : cls = .ref C := by rw [T.mgC] at xc; exact (Option.some.inj xc).symm
    subst ec
    obtain ⟨Hh, h1, h2⟩ := A.hdl g.1 (hm g (by simp))
    have hx := h2 _ xm C T.mgC
    have ev : (mg g.1).getD .none = .ref Hh := by rw [h1]; rfl
    show _ ∨ _
    rw [List.find?_cons] at e1
    cases hc : catches g.1 e.cls with
    | true =>
      rw [hc] at e1 hx
      cases e1
      refine .inl ⟨by rw [ev]; exact hx, fun a na => ⟨C, rfl, T.xf, T.noat, ?_⟩⟩
      refine ⟨.ref a, by simp [hi], rfl, rfl, dd, fs, v, rfl, hd, hl, ?_⟩
      exact ⟨by simp [sizeLine_eq], fun p hp => k v p hp rd⟩
    | false =>
      rw [hc] at e1 hx
      exact .inr ⟨by rw [ev]; exact hx, wNam_of A ⟨xm, T.mgC, dd, fs, v, rfl, hd, hl, rd⟩ hi (fun h q => hm h (by simp [q])) e1 k⟩
theorem cHdls_mem {i : Nat} : ∀ {hs : List ExceptHandler} {hs' : List (Str × Str)}, cHdls c i hs = some hs' → ∀ h ∈ hs', h.1 ∈ c.exc ∨ (h.1 = ("SealError" : Str) ∧ c.exc ≠ [])
  | [], _, h => by cases h; intro h q; cases q
  | h :: hs, hs', e => by
    have e : (match cHdl c i h, cHdls c i hs with
      | some p, some q => some (p :: q)
      | _, _ => none) = some hs' := e
    cases e1 : cHdl c i h with
    | none => rw [e1] at e; cases e
    | some p =>
      cases e2 : cHdls c i hs with
      | none => rw [e1, e2] at e; cases e
      | some q =>
        rw [e1, e2] at e
        cases e
        obtain ⟨y, p1, j, p2, p3, p4, q', p5, p6, p7, rfl, g1, g2, g3, g4⟩ := cHdl_inv e1
        intro h hh
        rcases List.mem_cons.mp hh with rfl | hh
        · exact g2
        · exact cHdls_mem e2 h hh
theorem frzN_ok {P H : Hp} {σ : St} {ρ : Rho} {A : List Addr} (ok : Ok P H σ ρ A) : ∀ n, ∃ P' A', Ext A P H P' H ∧ Ok P' H σ (frzN n ρ) A' ∧ ∀ a ∈ A', a ∈ A
  | 0 => ⟨P, A, .refl, ok, fun _ h => h⟩
  | n + 1 => by
    obtain ⟨P1, A1, x1, o1, s1⟩ := frzN_ok ok n
    unfold frzN
    cases es : slot (frzN n ρ) n with
    | none => exact ⟨P1, A1, x1, o1, s1⟩
    | some o =>
      obtain ⟨v, B1, C, B2, e2, eA, q, up⟩ := o1.sl.at' es
      have ef : frz (.pl n) (frzN n ρ) = some (o.data, (frzN n ρ).set n (some (.val o.data))) := by
        cases o with
        | val d =>
          have : (frzN n ρ).set n (some (O.val d)) = frzN n ρ := by
            refine List.ext_getElem? fun j => ?_
            rw [List.getElem?_set]
            split
            · rename_i hj
              subst hj
              unfold slot at es
              cases hr : (frzN n ρ)[n]? with
              | none => rw [hr] at es; cases es
              | some r =>
                rw [hr] at es
                have hl : n < (frzN n ρ).length := (List.getElem?_eq_some_iff.mp hr).1
                rw [if_pos hl]
                exact congrArg some es.symm
            · rfl
          show (match slot (frzN n ρ) n with
            | some (.val d) => some (d, frzN n ρ)
            | some o => some (o.data, (frzN n ρ).set n (some (.val o.data)))
            | none => none) = _
          rw [es]
          show some (d, frzN n ρ) = some (d, (frzN n ρ).set n (some (O.val d)))
          rw [this]
        | lst ds =>
          show (match slot (frzN n ρ) n with
            | some (.val d) => some (d, frzN n ρ)
            | some o => some (o.data, (frzN n ρ).set n (some (.val o.data)))
            | none => none) = _
          rw [es]
        | dct ds =>
          show (match slot (frzN n ρ) n with
            | some (.val d) => some (d, frzN n ρ)
            | some o => some (o.data, (frzN n ρ).set n (some (.val o.data)))
            | none => none) = _
          rw [es]
      obtain ⟨P2, A2, x2, o2, _, s2, _⟩ := frz_ok (B := []) o1 (x := .pl n) (v := v) ⟨rfl, e2⟩ (by rw [List.append_nil]; exact o1.nd) ef
      rw [List.append_nil] at x2
      exact ⟨P2, A2, x1.trans x2 fun a ha => .inl (s1 a ha), o2, fun a ha => s1 a (s2 a ha)⟩
theorem ps_tryL (o : SOk Wx X c cx k) {e : Expr} {hs : List ExceptHandler} {h₀ : ExceptHandler} {hs' : List (Str × Str)} {i : Nat} {x : Str} {l : List (Value × HRead)} {pr pos : Pos} (hx : cTg1 c (.Name x default) = some i ∧ c.sc.names.lookup x = some .local) (hh : HdN X x (h₀ :: hs) l)
    (hw : ∀ (P H : Hp) (σ : St) (e : Exn) (cls : Value) (d : Option Addr) (Q : VK) (h : Str × Str), ExcAt X.mg c.exc P H e cls d → i < σ.length → hs'.find? (fun h => catches h.1 e.cls) = some h → (∀ (v : V) (p : Addr), H p = none → RD P e.arg v → Q (.ref p) (upd H p (.tup [.str h.2, v]))) → wNam X.K i Q l cls d σ H) : PS X (.Try [.Return (some e) pr] (h₀ :: hs) [] [] pos) (tS Wx fz (evS cx np (.tryS (compE n c e) hs'))) := by
  obtain ⟨hN, _, hlt⟩ := tg1_at o hx.1
  have hln : X.env.kindOf x = some .local := by unfold Env.kindOf; rw [o.x.sc]; exact hx.2
  refine imp_PS (ps_try_n (i := i) (tb := fun W => tS (wishE X.mg c.exc fun cls d H => ∀ σ : St, σ.length = X.N.length → W cls d σ H) fz (fun ρ => kRetS np (evE cx (compE n c e) ρ))) o.hs o.hf (by rw [o.x.N]; exact o.x.nodup) hN hln (fun W pn xe tk po => ?_) hh) fun D σ H h => ?_
  · have x' : XOk (wishE X.mg c.exc fun cls d H => ∀ σ : St, σ.length = X.N.length → W cls d σ H) (X.tr pn xe) c cx k := {
      sc := o.x.sc
      N := o.x.N
      nodup := o.x.nodup
      calm := o.x.calm
      room := o.x.room
      fns := fun x np nd h m h1 h2 => by
        obtain ⟨C⟩ := o.x.fns x np nd h m h1 h2
        exact ⟨⟨C.callf, C.dfl, C.f, C.fd, C.ps, C.ds, C.F, C.mg, C.kp, C.bd, C.rd, C.at_, C.len, C.eq⟩⟩
      con := o.x.con
      free := o.x.free
      pass := ⟨fun cls d H => ∀ σ : St, σ.length = X.N.length → W cls d σ H, Takes.impL tk fun c d σ H hl h => h σ hl, fun _ _ _ _ h => h⟩
      exc := o.x.exc }
    refine imp_PSs (pss_cons (ps_ret (snd_all n _ (X.tr pn xe) c cx k x' e).1) pss_nil) fun D σ H h => ?_
    exact im_retS (np := np) (D := { D with nx := tNext D }) h
  · obtain ⟨P, ρ, A, ok, out⟩ := h
    obtain ⟨Pz, Az, xz, oz, sz⟩ := frzN_ok ok np
    have out : OutS Wx fz D σ P H A (kTryS hs' (kRetS np (evE cx (compE n c e) (frzN np ρ)))) := out
    have out := out.shift xz (fun a ha => .inl (sz a ha)) (Fz.refl (fz := fz) (σ := σ))
    clear ok
    generalize frzN np ρ = ρ at out oz
    have ok := oz
    clear oz xz sz
    revert ok out
    generalize Pz = P
    generalize Az = A
    intro out ok
    refine ⟨P, ρ, A, ok, ?_⟩
    show OutS _ fz D σ P H A (kRetS np (evE cx (compE n c e) ρ))
    cases er : kRetS np (evE cx (compE n c e) ρ) with
    | bad => rw [er] at out; exact out.elim
    | exc ex ρ' =>
      rw [er] at out
      simp only [kTryS] at out
      cases hf : hs'.find? (fun h => catches h.1 ex.cls) with
      | none => rw [hf] at out; exact out.elim
      | some h =>
        rw [hf] at out
        intro P' H' A' σ' x1 o1 n1 z1 P'' H'' cls d x2 sub2 ea σ2 hl2
        refine hw _ _ _ _ _ _ _ _ ea (by rw [hl2]; exact hlt) hf fun v p hp rd => ?_
        have o2 : Ok P'' H'' σ' ρ' A' := o1.ext x2 sub2 fun _ _ => List.not_mem_nil
        have x3 := ext_newP (A := A') (.tup [.str h.2, v]) hp sub2
        have n2 : New A H A' := n1
        refine out (upd P'' p (.tup [.str h.2, v])) _ A' [] σ' (.ref p) ((x1.trans (x2.mono fun _ q => by cases q) n1).trans x3 n1) (o2.newP _ hp) ⟨rfl, ?_⟩ (by rw [List.append_nil]; exact o1.nd) (by rw [List.append_nil]; exact n1) z1
        rw [RD]
        exact ⟨p, _, rfl, upd_same, RDs.keep x3.keep _ _ (.cons rd_str (.cons rd .nil))⟩
    | nx ρ' => rw [er] at out; exact out
    | bk ρ' => rw [er] at out; exact out
    | ct ρ' => rw [er] at out; exact out
    | rt v ρ' => rw [er] at out; exact out
theorem ps_tryD (o : SOk Wx X c cx k) {e : Expr} {hs : List ExceptHandler} {hs' : List (Str × Str)} {i : Nat} {pr pos : Pos} (h1 : hdlSlot c hs = some i) (h2 : cHdls c i hs = some hs') : PS X (.Try [.Return (some e) pr] hs [] [] pos) (tS Wx fz (evS cx np (.tryS (compE n c e) hs'))) := by
  cases hs with
  | nil => cases h1
  | cons h₀ hs =>
  obtain ⟨x, hx⟩ : ∃ x, cTg1 c (.Name x default) = some i ∧ c.sc.names.lookup x = some .local := by
    cases e1 : cHdl c i h₀ with
    | none => unfold cHdls at h2; rw [e1] at h2; cases h2
    | some p =>
      obtain ⟨y, p1, j, p2, p3, p4, q', p5, p6, p7, rfl, g1, g2, g3, g4⟩ := cHdl_inv e1
      exact ⟨y, g3, g4⟩
  exact ps_tryL o hx (hdls_ok o (tg1_at o hx.1).1 h2) fun P H σ e cls d Q h ea hi hf k => wNam_of o.x.exc ea hi (cHdls_mem h2) hf k
/-! ### except SealError as x: return ('w' if isinstance(x, C) else .., x.at) -/
def adr : Value → Addr
  | .ref a => a
  | _ => 0
def tWord (K : PySem.W.Frag) (C a : Addr) (d : Option Addr) (i : Nat) : List (Addr × Str) → Str → TE
  | [], wl => tC (.str wl)
  | (h, w) :: r, wl => tIf (tB (tCB (rIsX K C a d) (tCons (tVar i) (tCons (tC (.ref h)) tNil)))) (tC (.str w)) (tWord K C a d i r wl)
def tHdlI (K : PySem.W.Frag) (i : Nat) (ch : List (Addr × Str)) (wl : Str) : HRead := fun a cls d D σ H => ∃ C, cls = .ref C ∧ XfC K C ∧ IsiC K C ∧ PySem.W.findIn K (.ref C) "at" = some none ∧ tRet (tTup (tCons (tWord K C a d i ch wl) (tCons (tXf a cls d C "at" (tVar i)) tNil))) D σ H
theorem pe_cls {C : Str} {Hh : Addr} {p : Pos} (hg : Gl X C) (hm : X.mg C = some (.ref Hh)) (hdb : (C == ("__debug__" : Str)) = false) : PE X (.Name C p) (tC (.ref Hh)) :=
  ⟨fun pins s σ H Q I h => ld_glob I hg hm ⟨.ref Hh, H, I, rfl, h⟩ hdb⟩
theorem pe_word (o : SOk Wx X c cx k) {i : Nat} {x : Str} (hN : X.N[i]? = some x) (hv : Vis X.env.scope x) (hd1 : (x == ("__debug__" : Str)) = false) (hd2 : (x == ("__classdict__" : Str)) = false) {a C : Addr} {oe : Obj} {d : Option Addr} {pn : List (Addr × Obj)} (T : XfC X.K C) (I : IsiC X.K C) (hz : Zc (.ref C) d oe) (hf : ∃ vs, oe.data = .fields vs) :
    ∀ {n : Nat} {e : Expr} {ch : List (Str × Str)} {wl : Str}, cWord c x n e = some (ch, wl) → PE (X.suite a ((a, oe) :: pn)) e (tWord X.K C a d i (ch.map fun h => (adr ((X.mg h.1).getD .none), h.2)) wl) ∧ ∀ h ∈ ch, h.1 ∈ c.exc ∨ (h.1 = ("SealError" : Str) ∧ c.exc ≠ []) := by
  intro n
  induction n with
  | zero =>
    intro e ch wl h
    unfold cWord at h
    split at h
    · cases h
      exact ⟨pe_str, fun _ q => nomatch q⟩
    · rename_i hn; cases hn
    · cases h
  | succ n ih =>
    intro e ch wl h
    unfold cWord at h
    split at h
    · cases h
      exact ⟨pe_str, fun _ q => nomatch q⟩
    · rename_i n' f p1 y p2 Cn p3 p4 w j p5 e' p6 hn
      cases hn
      obtain ⟨hh, h7⟩ := Option.ite_none_right_eq_some.mp h
      clear h
      simp only [Bool.and_eq_true, Bool.or_eq_true, decide_eq_true_eq, Bool.not_eq_true', List.isEmpty_eq_false_iff, List.contains_iff_mem] at hh
      obtain ⟨⟨⟨⟨⟨rfl, g1⟩, g2⟩, rfl⟩, g3⟩, g4⟩ := hh
      obtain ⟨r, hr, e2⟩ := Option.map_eq_some_iff.mp h7
      cases e2
      obtain ⟨q1, q2⟩ := ih (e := e') (ch := r.1) (wl := r.2) hr
      obtain ⟨Hh, hm, _⟩ := o.x.exc.hdl _ g4
      obtain ⟨gi, _⟩ := gl_of o.x g1
      obtain ⟨gc, pc⟩ := gl_of o.x g3
      have hx : PE (X.suite a ((a, oe) :: pn)) (.Name x p2) (tVar i) := pe_var (X := X.suite a ((a, oe) :: pn)) hN hv hd1 hd2
      have hc : PE (X.suite a ((a, oe) :: pn)) (.Name Cn p3) (tC (.ref Hh)) := pe_cls (X := X.suite a ((a, oe) :: pn)) gc hm (plain_of pc).1
      have call := pe_callB (X := X.suite a ((a, oe) :: pn)) (p := p1) (pos := p4) (call_isX (pn := pn) T I hz hf) gi (o.x.free _ g2) boot_isinstance (pa_cons (X := X.suite a ((a, oe) :: pn)) hx (pa_cons (X := X.suite a ((a, oe) :: pn)) hc (pa_nil (X := X.suite a ((a, oe) :: pn))))) (by decide) (by decide) rfl rfl
      refine ⟨?_, fun h hh => ?_⟩
      · have ea : adr ((X.mg Cn).getD .none) = Hh := by rw [hm]; rfl
        show PE _ _ (tIf (tB (tCB (rIsX X.K C a d) (tCons (tVar i) (tCons (tC (.ref (adr ((X.mg Cn).getD .none)))) tNil)))) (tC (.str w)) (tWord X.K C a d i (r.1.map fun h => (adr ((X.mg h.1).getD .none), h.2)) r.2))
        rw [ea]
        exact pe_ifExp (X := X.suite a ((a, oe) :: pn)) (pt_val call (fun _ => rfl)) pe_str q1
      · rcases List.mem_cons.mp hh with rfl | hh
        · exact g4
        · exact q2 h hh
    · cases h
theorem cWord_mem {x : Str} : ∀ {n : Nat} {e : Expr} {ch : List (Str × Str)} {wl : Str}, cWord c x n e = some (ch, wl) → ∀ h ∈ ch, h.1 ∈ c.exc ∨ (h.1 = ("SealError" : Str) ∧ c.exc ≠ []) := by
  intro n
  induction n with
  | zero =>
    intro e ch wl h
    unfold cWord at h
    split at h
    · cases h
      exact fun _ q => nomatch q
    · rename_i hn; cases hn
    · cases h
  | succ n ih =>
    intro e ch wl h
    unfold cWord at h
    split at h
    · cases h
      exact fun _ q => nomatch q
    · rename_i n' f p1 y p2 Cn p3 p4 w j p5 e' p6 hn
      cases hn
      obtain ⟨hh, h⟩ := Option.ite_none_right_eq_some.mp h
      simp only [Bool.and_eq_true, Bool.or_eq_true, decide_eq_true_eq, Bool.not_eq_true', List.isEmpty_eq_false_iff, List.contains_iff_mem] at hh
      obtain ⟨r, hr, e2⟩ := Option.map_eq_some_iff.mp h
      cases e2
      intro h hm
      rcases List.mem_cons.mp hm with rfl | hm
      · exact hh.2
      · exact ih hr h hm
    · cases h
theorem cWord_ns {x : Str} {n : Nat} {e : Expr} {r : List (Str × Str) × Str} (h : cWord c x n e = some r) {es : List Expr} : noStar (e :: es) = noStar es := by
  cases e with
  | Starred _ _ => cases n <;> simp [cWord] at h
  | _ => rfl
theorem word_of {K : PySem.W.Frag} {mg : Str → Option Value} {xl : List Str} {prog : Program} {w : World} (A : XcAll prog w K mg xl) {i : Nat} {H : Hp} {σ : St} {e : Exn} {C a : Addr} {dd : Addr} {fs : List (Str × V)} (hm : e.cls ∈ xl) (T : XcD prog w K mg e.cls C) (hs : σ[i]? = some (some (.ref a))) (hd : H dd = some (.xd fs)) {Q : VK} :
    ∀ {ch : List (Str × Str)} {wl : Str}, (∀ h ∈ ch, h.1 ∈ xl ∨ (h.1 = ("SealError" : Str) ∧ xl ≠ [])) → Q (.str (((ch ++ [(("SealError" : Str), wl)]).find? (fun h => catches h.1 e.cls)).elim Str.empty (·.2))) H → tWord K C a (some dd) i (ch.map fun h => (adr ((mg h.1).getD .none), h.2)) wl σ H Q
  | [], wl, _, q => by
    have ec : catches ("SealError" : Str) e.cls = true := by simp [catches]
    have q : Q (.str ((([(("SealError" : Str), wl)] : List (Str × Str)).find? (fun h => catches h.1 e.cls)).elim Str.empty (·.2))) H := q
    rw [List.find?_cons, ec] at q
    exact q
  | g :: ch, wl, hh, q => by
    obtain ⟨Hh, h1, h2⟩ := A.hdl g.1 (hh g (by simp))
    have hx := kit_of_exm T.self (h2 _ hm C T.mgC)
    have ea : adr ((mg g.1).getD .none) = Hh := by rw [h1]; rfl
    show tIf (tB (tCB (rIsX K C a (some dd)) (tCons (tVar i) (tCons (tC (.ref (adr ((mg g.1).getD .none)))) tNil)))) (tC (.str g.2)) (tWord K C a (some dd) i (ch.map fun h => (adr ((mg h.1).getD .none), h.2)) wl) σ H Q
    rw [ea]
    rw [List.cons_append, List.find?_cons] at q
    refine ⟨.ref a, hs, .ref Hh, .ref Hh, _, rfl, fun u r => r, hx, ⟨dd, fs, rfl, hd⟩, _, rfl, ?_⟩
    cases hc : catches g.1 e.cls with
    | true => rw [hc] at q; rw [if_pos rfl]; exact q
    | false => rw [hc] at q; rw [if_neg Bool.false_ne_true]; exact word_of A hm T hs hd (fun h z => hh h (by simp [z])) q
theorem ps_tryI (o : SOk Wx X c cx k) {e : Expr} {h : ExceptHandler} {hs' : List (Str × Str)} {i : Nat} {pr pos : Pos} (h2 : cHdlI c i h = some hs') : PS X (.Try [.Return (some e) pr] [h] [] [] pos) (tS Wx fz (evS cx np (.tryS (compE n c e) hs'))) := by
  unfold cHdlI at h2
  split at h2
  case h_2 => cases h2
  rename_i Cn p1 x ew y p2 at_ p3 q p4 p5 p6
  obtain ⟨hh, h3⟩ := Option.ite_none_right_eq_some.mp h2
  clear h2
  simp only [Bool.and_eq_true, decide_eq_true_eq, beq_iff_eq, Bool.not_eq_true', List.isEmpty_eq_false_iff] at hh
  obtain ⟨⟨⟨⟨⟨⟨g1, rfl⟩, g2⟩, rfl⟩, rfl⟩, g3⟩, g4⟩ := hh
  obtain ⟨r, hr, rfl⟩ := Option.map_eq_some_iff.mp h3
  obtain ⟨ch, wl⟩ := r
  obtain ⟨n1, n2, n3⟩ := tg1_at o g3
  have mem : ("SealError" : Str) ∈ c.exc ∨ (("SealError" : Str) = ("SealError" : Str) ∧ c.exc ≠ []) := .inr ⟨rfl, g2⟩
  obtain ⟨Hs, hm, hex⟩ := o.x.exc.hdl _ mem
  obtain ⟨gg, pl⟩ := gl_of o.x g1
  have plx : plainN x = true := by
    have g3' : (if (isLoc c x && plainN x && decide (slotNo c.N x < c.N.length)) = true then some (slotNo c.N x) else none) = some i := g3
    obtain ⟨hh, _⟩ := Option.ite_none_right_eq_some.mp g3'
    simp only [Bool.and_eq_true] at hh
    exact hh.1.2
  obtain ⟨d1, d2, _⟩ := plain_of plx
  have vis : Vis X.env.scope x := .inl (by rw [o.x.sc]; exact g4)
  refine ps_tryL (l := [(.ref Hs, tHdlI X.K i (ch.map fun h => (adr ((X.mg h.1).getD .none), h.2)) wl)]) o ⟨g3, g4⟩ (.cons (b₀ := _) (suite := []) ⟨gg, (plain_of pl).1, .inl hm⟩ (fun a oe cls d pn hz hf => ⟨fun pins s σ H D I h => ?_⟩) .nil) fun P H σ ex cls d Q hd ea hi hf kk => ?_
  · obtain ⟨C, rfl, T, Is, hno, h⟩ := h
    have hx : PE (X.suite a ((a, oe) :: pn)) (.Name x p2) (tVar i) := pe_var (X := X.suite a ((a, oe) :: pn)) n1 vis d1 d2
    have := pss_cons (ps_ret (pos := p5) (pe_tup (x1 := q) (pos := p4) (pa_cons (X := X.suite a ((a, oe) :: pn)) (pe_word o n1 vis d1 d2 T Is hz hf hr).1 (pa_cons (pe_xf (pos := p3) T hno hz hf hx) pa_nil) (star_cons (by rw [cWord_ns hr]; rfl))))) (pss_nil (X := X.suite a ((a, oe) :: pn)))
    exact this.run pins s σ H D I h
  · obtain ⟨xm, xc, dd, fs, v, rfl, hdd, hl, rd⟩ := ea
    obtain ⟨C, T⟩ := o.x.exc.cls _ xm
    have ec : cls = .ref C := by rw [T.mgC] at xc; exact (Option.some.inj xc).symm
    subst ec
    have hall := hex _ xm C T.mgC
    have ecs : catches ("SealError" : Str) ex.cls = true := by simp [catches]
    rw [ecs] at hall
    show _ ∨ _
    refine .inl ⟨hall, fun a na => ⟨C, rfl, T.xf, T.isi, T.noat, ?_⟩⟩
    have hsi : (σ.set i (some (.ref a)))[i]? = some (some (V.ref a)) := by simp [hi]
    refine word_of o.x.exc xm T hsi hdd (cWord_mem hr) ?_
    rw [hf]
    refine ⟨.ref a, by simp [hi], rfl, rfl, dd, fs, v, rfl, hdd, hl, ?_⟩
    exact ⟨by simp [sizeLine_eq], fun p hp => kk v p hp rd⟩
theorem ps_rzC (o : SOk Wx X c cx k) {x : Option Expr} {p : Str × Expr} {pos : Pos} (h : cRaise c x = some p) : PS X (.Raise x none pos) (tS Wx fz (evS cx np (.rz p.1 (compE n c p.2)))) := by
  unfold cRaise at h
  split at h
  case h_2 => cases h
  obtain ⟨hh, e2⟩ := Option.ite_none_right_eq_some.mp h
  cases e2
  simp only [Bool.and_eq_true, List.contains_iff_mem] at hh
  exact ps_rzD o hh.1.1 hh.1.2 hh.2
theorem ps_tryC (o : SOk Wx X c cx k) {b : List Stmt} {hs : List ExceptHandler} {p : Expr × List (Str × Str)} {pos : Pos} (h : cTry c b hs = some p) : PS X (.Try b hs [] [] pos) (tS Wx fz (evS cx np (.tryS (compE n c p.1) p.2))) := by
  unfold cTry at h
  split at h
  case h_2 => cases h
  split at h
  case h_2 => cases h
  rename_i h1
  split at h
  · rename_i h2
    cases h
    exact ps_tryD o h1 h2
  · split at h
    case h_2 => cases h
    obtain ⟨hs', h2, rfl⟩ := Option.map_eq_some_iff.mp h
    exact ps_tryI o h2
end
end SW

set_option Elab.async false
set_option linter.all false
set_option maxRecDepth 100000
set_option maxHeartbeats 2000000
/-! a, b = e, e' -/
namespace SW
open PySem PySem.Spec L2
open PyProof.Rows hiding St
section
variable {Wx : Wish} {fz : Nat → Bool} {D : Ends} {σ : St} {P H : Hp} {A : List Addr} {ρ : Rho}
theorem newO_ok {x : SW.A} {v : V} {o : O} {B : List Addr} (ok : Ok P H σ ρ A) (r : RA P H σ [] B x v) (e : newO x ρ = some o) : RO P H B o v := by
  cases x with
  | vl y => cases e; exact r
  | pl i =>
    obtain ⟨rfl, hv⟩ := r
    have e : (match slot ρ i with
      | some (.val d) => some (.val d)
      | _ => none) = some o := e
    cases hs : slot ρ i with
    | none => rw [hs] at e; cases e
    | some y =>
      rw [hs] at e
      cases y with
      | val d =>
        cases e
        obtain ⟨w, A1, C, A2, e1, _, q, _⟩ := ok.sl.at' hs
        rw [hv] at e1
        cases e1
        exact ⟨rfl, q.2⟩
      | _ => cases e
theorem bind_ok {i : Nat} {o : O} {v : V} {B : List Addr} (ok : Ok P H σ ρ A) (r : RO P H B o v) (nd : (A ++ B).Nodup) (hi : i < σ.length) : ∃ A', Ok P H (σ.set i (some v)) (ρ.set i (some o)) A' ∧ ∀ a ∈ A', a ∈ A ++ B := by
  obtain ⟨A1, A0, A2, rfl, h3⟩ := Slots.put (X := []) Ext.refl i ok.sl (fun _ _ => List.not_mem_nil) r (by rw [ok.len]; exact hi)
  have n1 := ok.nd
  have nm := (nodup_mid n1).1
  have hB := (List.nodup_append.mp nd).2.1
  have dd : ∀ a ∈ A1 ++ A2, a ∉ B := fun a ha hb => (List.nodup_append.mp nd).2.2 a (mem_mid ha) a hb rfl
  have nd2 : (A1 ++ (B ++ A2)).Nodup := by
    have := List.nodup_append.mp nm
    refine List.nodup_append.mpr ⟨this.1, List.nodup_append.mpr ⟨hB, this.2.1, fun a ha b hb q => dd b (List.mem_append_right _ hb) (by rw [← q]; exact ha)⟩, fun a ha b hb q => ?_⟩
    rcases List.mem_append.mp hb with z | z
    · exact dd a (List.mem_append_left _ ha) (by rw [q]; exact z)
    · exact this.2.2 a ha b z q
  refine ⟨_, ⟨ok.sub, h3, nd2⟩, fun a ha => ?_⟩
  rcases List.mem_append.mp ha with z | z
  · exact List.mem_append_left _ (List.mem_append_left _ z)
  · rcases List.mem_append.mp z with z | z
    · exact List.mem_append_right _ z
    · exact List.mem_append_left _ (by simp [z])
theorem im_par {gs : Rho → R (List SW.A)} {i j : Nat} (hi : i < σ.length) (hj : j < σ.length) (zi : fz i = false) (zj : fz j = false) (h : tS Wx fz (fun ρ => kPar i j (gs ρ)) D σ H) : tPar i j (tG Wx RAs gs) D σ H := by
  obtain ⟨P, ρ, A, ok, out⟩ := h
  dsimp only at out
  refine ⟨P, ρ, A, ok, ?_⟩
  cases e : gs ρ with
  | bad => rw [e] at out; exact out.elim
  | exc ex ρ1 => rw [e] at out; exact out.exc_
  | ok xs ρ1 =>
    rw [e] at out
    intro P1 H1 A1 B1 vs x1 o1 r1 d1 n1
    match xs, out, r1 with
    | [], out, _ => exact out.elim
    | [_], out, _ => exact out.elim
    | _ :: _ :: _ :: _, out, _ => exact out.elim
    | [x, y], out, r1 =>
      obtain ⟨v, t, Bx, B', rfl, rfl, rx, w, t', By, B'', rfl, rfl, ry, rfl, rfl⟩ := r1
      have out : OutS Wx fz D σ P H A (match newO x ρ1, newO y ρ1 with
        | some o, some o' => .nx ((ρ1.set i (some o)).set j (some o'))
        | _, _ => .bad) := out
      cases ex : newO x ρ1 with
      | none => rw [ex] at out; exact out.elim
      | some o =>
        cases ey : newO y ρ1 with
        | none => rw [ex, ey] at out; exact out.elim
        | some o' =>
          rw [ex, ey] at out
          rw [List.append_nil] at d1 n1
          have q1 := newO_ok o1 rx ex
          have q2 := newO_ok o1 ry ey
          obtain ⟨m1, m2, m3⟩ := List.nodup_append.mp d1
          obtain ⟨m4, m5, m6⟩ := List.nodup_append.mp m2
          obtain ⟨A2, o2, s2⟩ := bind_ok (i := i) o1 q1 (List.nodup_append.mpr ⟨m1, m4, fun a ha b hb => m3 a ha b (List.mem_append_left _ hb)⟩) hi
          obtain ⟨A3, o3, s3⟩ := bind_ok (i := j) o2 q2 (List.nodup_append.mpr ⟨o2.nd, m5, fun a ha b hb => by
            rcases List.mem_append.mp (s2 a ha) with z | z
            · exact m3 a z b (List.mem_append_right _ hb)
            · exact m6 a z b hb⟩) (by rw [List.length_set]; exact hj)
          refine ⟨v, w, rfl, out P1 H1 A3 _ x1 o3 (fun a ha => n1 a ?_) ⟨by rw [List.length_set, List.length_set], fun k hk => ?_⟩⟩
          · rcases List.mem_append.mp (s3 a ha) with z | z
            · rcases List.mem_append.mp (s2 a z) with z | z
              · exact List.mem_append_left _ z
              · exact List.mem_append_right _ (List.mem_append_left _ z)
            · exact List.mem_append_right _ (List.mem_append_right _ z)
          · rw [List.getElem?_set_ne (fun z => by subst z; rw [zj] at hk; cases hk), List.getElem?_set_ne (fun z => by subst z; rw [zi] at hk; cases hk)]
end
section
variable {Wx : Wish} {fz : Nat → Bool} {X : Cx} {c : Cfg} {cx : Ctx} {k n np : Nat}
theorem locName_of {line : Nat} {x : Str} {p : Pos} (h : locName c line (.Name x p) = true) : c.sc.names.lookup x = some .local ∧ (p.line == line) = true := by
  unfold locName at h
  rw [Bool.and_eq_true] at h
  refine ⟨?_, h.2⟩
  have h1 := h.1
  split at h1
  · assumption
  · cases h1
theorem swapped_par {env : Env} {x y : Str} {p q p2 p3 : Pos} {k1 k2 : Nat} {a b : Expr} (hk : env.blockKind = .function) (hxy : x ≠ y) (hx : env.kindOf x = some .local) (hy : env.kindOf y = some .local) (hq : (q.line == p.line) = true) (hs : noStar [a, b] = true)
    (f1 : [a, b].all (foldedForSure 8) = false) (f2 : [a, b].all (constantsAlone 8) = false) : swappedStores [.Tuple [.Name x p, .Name y q] k1 p2] (.Tuple [a, b] k2 p3) env = pure (some [x, y]) := by
  unfold swappedStores
  have e1 : (env.blockKind != ScopeKind.function) = false := by rw [hk]; rfl
  have ed : ([x, y] : List Str).eraseDups = [x, y] := by
    simp [List.eraseDups_cons, Ne.symm hxy]
  have g1 : (env.kindOf x == some NameKind.local && p.line == p.line) = true := by rw [hx]; simp
  have g2 : (env.kindOf y == some NameKind.local && q.line == p.line) = true := by rw [hy, hq]; rfl
  dsimp only
  rw [if_neg (by rw [e1]; simp), if_neg (by
    cases a with
    | Starred _ _ => cases hs
    | _ => cases b with
      | Starred _ _ => cases hs
      | _ => exact Bool.false_ne_true)]
  have nm : ∀ f : Expr → Option Str, f (.Name x p) = some x → f (.Name y q) = some y → List.filterMap f [Expr.Name x p, Expr.Name y q] = [x, y] := fun f h1 h2 => by simp [List.filterMap_cons, h1, h2]
  rw [nm _ (by show (if (env.kindOf x == some NameKind.local && p.line == p.line) = true then some x else none) = some x; rw [if_pos g1]) (by show (if (env.kindOf y == some NameKind.local && q.line == p.line) = true then some y else none) = some y; rw [if_pos g2])]
  rw [if_neg (by rw [ed]; simp), if_neg (by rw [f1]; exact Bool.false_ne_true)]
  rw [if_neg (by rw [f2]; exact Bool.false_ne_true)]
theorem ps_parD (o : SOk Wx X c cx k) {ts es : List Expr} {q q2 : Nat} {p p2 pos : Pos} {r : Nat × Nat × Expr × Expr} (h : cPar c ts es = some r) (hs : noStar es = true) (zi : fz r.1 = false) (zj : fz r.2.1 = false) :
    PS X (.Assign [.Tuple ts q p] (.Tuple es q2 p2) pos) (tS Wx fz (evS cx np (.par r.1 r.2.1 (compE n c r.2.2.1) (compE n c r.2.2.2)))) := by
  unfold cPar at h
  split at h
  case h_2 => cases h
  rename_i x px y py a b
  split at h
  case h_2 => cases h
  rename_i i j hi hj
  obtain ⟨hh, e⟩ := Option.ite_none_right_eq_some.mp h
  cases e
  simp only [Bool.and_eq_true, decide_eq_true_eq, Bool.not_eq_true'] at hh
  obtain ⟨⟨⟨⟨⟨h1, h2⟩, h3⟩, h4⟩, h5⟩, h6⟩ := hh
  obtain ⟨k1, k2⟩ := locName_of h2
  obtain ⟨k3, k4⟩ := locName_of h3
  obtain ⟨g1, g2, g3⟩ := tg1_at o hi
  obtain ⟨g4, g5, g6⟩ := tg1_at o hj
  have nd : X.N.Nodup := by rw [o.x.N]; exact o.x.nodup
  have sx : X.env.scope.names.lookup x = some .local := by rw [o.x.sc]; exact k1
  have sy : X.env.scope.names.lookup y = some .local := by rw [o.x.sc]; exact k3
  have hk : X.env.blockKind = .function := by
    unfold Env.blockKind
    rw [o.x.sc]
    have : c.sc.kind = .function := by
      unfold isFun at h4
      split at h4
      · assumption
      · cases h4
    rw [this]
    rfl
  have hij : i ≠ j := fun z => by
    subst z
    rw [g1] at g4
    exact h1 (Option.some.inj g4)
  refine imp_PSL (ps_par o.x.calm nd g1 g4 hij sx sy (pa_ags (Wx := Wx) (n := n) (snd_all n) o.x hs) (swapped_par hk h1 sx sy k4 hs h5 h6)) fun D σ H hl h => ?_
  exact im_par (by rw [hl]; exact g3) (by rw [hl]; exact g6) zi zj h
end
end SW

set_option Elab.async false
set_option linter.all false
set_option maxRecDepth 100000
set_option maxHeartbeats 2000000
namespace SW
open PySem PySem.Spec L2
open PyProof.Rows hiding St
theorem compS_tt {n : Nat} {c : Cfg} {ts es : List Expr} {q q2 : Nat} {p p2 pos : Pos} : compS (n + 1) c (.Assign [.Tuple ts q p] (.Tuple es q2 p2) pos) = (if noStar ts && noStar es && decide (ts.length = es.length) && decide (es.length ≤ 3) then
              (match cTgs c ts with
                | some _ => (match cPar c ts es with
                  | some p => .par p.1 p.2.1 (compE n c p.2.2.1) (compE n c p.2.2.2)
                  | none => .bad)
                | none => (match ts, es with
                  | [.Subscript (.Name x _) k1 _, .Subscript (.Name y _) k2 _], [e1, e2] => (match cVar c x with
                    | some i => if x = y && !isSlice k1 && !isSlice k2 then .swp i (compE n c k1) (compE n c k2) (compE n c e1) (compE n c e2) else .bad
                    | none => .bad)
                  | _, _ => .bad))
              else .bad) := rfl
theorem snd_stm : ∀ n, SndS n
  | 0 => fun Wx fz X c cx k np o st h => ps_bad
  | n + 1 => fun Wx fz X c cx k np o st h => by
    have S := snd_stm n
    cases st with
    | Expr e pos =>
      have plain : compS (n + 1) c (.Expr e pos) = (if isComp e = true then .bad else .expr (compE n c e)) → PS X (.Expr e pos) (tS Wx fz (evS cx np (compS (n + 1) c (.Expr e pos)))) := fun he => by
        rw [he]
        split
        · exact ps_bad
        · rename_i hc
          exact imp_PS (ps_expr (snd_all n Wx X c cx k o.x e).1 (sw_none (not_true hc))) fun D σ H h => im_exprS h
      cases e with
      | Constant q a p =>
        cases q with
        | str x => exact imp_PS ps_doc fun D σ H ⟨P, ρ, A, ok, out⟩ => out P H A σ .refl ok .refl .refl
        | _ => exact plain rfl
      | _ => exact plain rfl
    | Pass pos => exact imp_PS ps_pass fun D σ H ⟨P, ρ, A, ok, out⟩ => out P H A σ .refl ok .refl .refl
    | Break pos => exact imp_PS ps_break fun D σ H ⟨P, ρ, A, ok, out⟩ => out P H A σ .refl ok .refl .refl
    | Continue pos => exact imp_PS ps_continue fun D σ H ⟨P, ρ, A, ok, out⟩ => out P H A σ .refl ok .refl .refl
    | Return v pos =>
      cases v with
      | none => exact imp_PS ps_retN fun D σ H ⟨P, ρ, A, ok, out⟩ => out P H A [] σ .non .refl ok ⟨rfl, rd_none⟩ (by rw [List.append_nil]; exact ok.nd) (by rw [List.append_nil]; exact .refl) .refl
      | some e => exact imp_PS (ps_ret (snd_all n Wx X c cx k o.x e).1) fun D σ H h => im_retS h
    | If t a b pos =>
      have h : (fzSs fz (a.map (compS n c)) && fzSs fz (b.map (compS n c))) = true := h
      rw [Bool.and_eq_true] at h
      exact ps_ifD o (pss_D S o h.1) (pss_D S o h.2)
    | Raise x cause pos =>
      cases cause with
      | some _ => exact ps_bad
      | none =>
        have e' : compS (n + 1) c (.Raise x none pos) = (match cRaise c x with
          | some p => .rz p.1 (compE n c p.2)
          | none => .bad) := rfl
        rw [e']
        cases hp : cRaise c x with
        | none => exact ps_bad
        | some p => exact ps_rzC o hp
    | Try b hs oe fb pos =>
      cases oe with
      | cons _ _ => exact ps_bad
      | nil =>
        cases fb with
        | cons _ _ => exact ps_bad
        | nil =>
          have e' : compS (n + 1) c (.Try b hs [] [] pos) = (match cTry c b hs with
            | some p => .tryS (compE n c p.1) p.2
            | none => .bad) := rfl
          rw [e']
          cases hp : cTry c b hs with
          | none => exact ps_bad
          | some p => exact ps_tryC o hp
    | While t b e pos =>
      cases e with
      | nil => exact ps_whlD o (pss_D S o h)
      | cons _ _ => exact ps_bad
    | For tg it b e pos =>
      cases e with
      | cons _ _ => exact ps_bad
      | nil =>
        have e : compS (n + 1) c (.For tg it b [] pos) = (if isSet it = true then .bad else
          match cTarget c tg with
          | some t => (match rngArgs c it with
            | some args => .forS t true (args.map (compE n c)) (b.map (compS n c))
            | none => .forS t false [compE n c it] (b.map (compS n c)))
          | none => .bad) := rfl
        rw [e] at h ⊢
        by_cases hs : isSet it = true
        · rw [if_pos hs]; exact ps_bad
        · rw [if_neg hs] at h ⊢
          cases ht : cTarget c tg with
          | none => exact ps_bad
          | some t =>
            rw [ht] at h
            dsimp only at h ⊢
            have hh : ((t.slots.all fun i => !fz i) && fzSs fz (b.map (compS n c))) = true := by
              cases hr : rngArgs c it with
              | none => rw [hr] at h; exact h
              | some args => rw [hr] at h; exact h
            rw [Bool.and_eq_true] at hh
            exact ps_forD o (not_true hs) ht hh.1 (pss_D S o hh.2)
    | AugAssign tg op e pos =>
      cases tg with
      | Name x p =>
        have key : ∀ op, op = .Add ∨ op = .Sub → ∀ r, r = (match cTg1 c (.Name x p) with
          | some i => MS.aug i op (compE n c e)
          | none => .bad) → fzS fz r = true → PS X (.AugAssign (.Name x p) op e pos) (tS Wx fz (evS cx np r)) := by
          rintro op hop r rfl hz
          cases hi : cTg1 c (.Name x p) with
          | none => exact ps_bad
          | some i =>
            rw [hi] at hz
            have hz : (!fz i) = true := hz
            exact ps_augD o hop hi (by simpa using hz)
        cases op with
        | Add => exact key .Add (.inl rfl) _ rfl h
        | Sub => exact key .Sub (.inr rfl) _ rfl h
        | _ => exact ps_bad
      | _ => exact ps_bad
    | Assign tgs e pos =>
      match tgs with
      | [] => exact ps_bad
      | t :: _ :: _ => cases t <;> first | exact ps_bad | (rename_i ob _ _; cases ob <;> exact ps_bad) | (cases e <;> exact ps_bad)
      | [tg] =>
        cases tg with
        | Name x p =>
          have e' : compS (n + 1) c (.Assign [.Name x p] e pos) = (match cTg1 c (.Name x p) with
            | some i => .asg (.name i) (compE n c e)
            | none => .bad) := rfl
          rw [e'] at h ⊢
          cases hi : cTg1 c (.Name x p) with
          | none => exact ps_bad
          | some i =>
            rw [hi] at h
            have h : ((MT.name i).slots.all fun i => !fz i) = true := h
            exact ps_asgN o hi (all_not h i (by simp [MT.slots]))
        | Subscript ob kE p2 =>
          cases ob with
          | Name x p =>
            have e' : compS (n + 1) c (.Assign [.Subscript (.Name x p) kE p2] e pos) = (match cVar c x with
              | some i => if isComp e || isSlice kE then .bad else .sub i (compE n c kE) (compE n c e)
              | none => .bad) := rfl
            rw [e']
            cases hi : cVar c x with
            | none => exact ps_bad
            | some i =>
              dsimp only
              split
              · exact ps_bad
              · rename_i hh
                rw [Bool.or_eq_true, not_or] at hh
                exact ps_subD o hi (not_true hh.1) (not_true hh.2)
          | _ => exact ps_bad
        | Tuple ts q p =>
          have other : (∀ es q p, e ≠ .Tuple es q p) → compS (n + 1) c (.Assign [.Tuple ts q p] e pos) = (if isComp e = true then .bad else match cTarget c (.Tuple ts q p) with
            | some t => .asg t (compE n c e)
            | none => .bad) → PS X (.Assign [.Tuple ts q p] e pos) (tS Wx fz (evS cx np (compS (n + 1) c (.Assign [.Tuple ts q p] e pos)))) := fun hn e' => by
            rw [e'] at h ⊢
            by_cases hc : isComp e = true
            · rw [if_pos hc]; exact ps_bad
            · rw [if_neg hc] at h ⊢
              cases ht : cTarget c (.Tuple ts q p) with
              | none => exact ps_bad
              | some t =>
                rw [ht] at h
                exact ps_tupD o (not_true hc) hn ht h
          cases e with
          | Tuple es q2 p2 =>
            rw [compS_tt] at h ⊢
            split
            case isFalse => exact ps_bad
            rename_i hh
            rw [if_pos hh] at h
            simp only [Bool.and_eq_true] at hh
            split
            · rename_i hts
              rw [hts] at h
              dsimp only at h
              cases hp : cPar c ts es with
              | none => exact ps_bad
              | some r =>
                rw [hp] at h
                have h : (!fz r.1 && !fz r.2.1) = true := h
                rw [Bool.and_eq_true, Bool.not_eq_true', Bool.not_eq_true'] at h
                exact ps_parD o hp hh.1.1.2 h.1 h.2
            · split
              case h_2 => exact ps_bad
              rename_i x px k1 p1 y py k2 p3 e1 e2 _
              cases hi : cVar c x with
              | none => exact ps_bad
              | some i =>
                dsimp only
                split
                case isFalse => exact ps_bad
                rename_i hx
                simp only [Bool.and_eq_true, decide_eq_true_eq, Bool.not_eq_true'] at hx
                obtain ⟨⟨rfl, h1⟩, h2⟩ := hx
                exact ps_swpD o hi hh.1.1.2 h1 h2
          | _ => exact other (fun _ _ _ => Expr.noConfusion) rfl
        | _ => exact ps_bad
    | _ => exact ps_bad
end SW

set_option Elab.async false
set_option linter.all false
set_option maxRecDepth 100000
set_option maxHeartbeats 2000000
/-! defs, tables of defs -/
namespace SW
open PySem PySem.Spec L2
open PyProof.Rows hiding St
/-! ### the entry -/
theorem slots_none {P H : Hp} : ∀ (n : Nat), Slots P H (List.replicate n none) (List.replicate n none) []
  | 0 => ⟨rfl, rfl⟩
  | n + 1 => ⟨none, _, [], [], rfl, rfl, rfl, slots_none n⟩
theorem slots_args {P H : Hp} {n m : Nat} (hnm : n = m) : ∀ {os : List O} {vs : List V} {A : List Addr}, ROs P H A os vs → Slots P H (os.map some ++ List.replicate n none) (vs.map some ++ List.replicate m none) A
  | [], _, _, h => by
    rw [h.1, h.2, hnm]
    exact slots_none m
  | o :: os, _, _, h => by
    obtain ⟨v, t, B1, B2, rfl, rfl, h1, h2⟩ := h
    exact ⟨some v, _, B1, B2, rfl, rfl, ⟨v, rfl, h1⟩, slots_args hnm h2⟩
/-! ### the end -/
theorem end_args {P H P' H' : Hp} (kp : Keep P P') : ∀ {rb : List Bool} {os os' : List O} {vs : List V} {A A' : List Addr} {ρ : Rho} {σ' : St}, okArgs rb os = true → ROs P H A os vs → endArgs rb os ρ = some os' → Slots P' H' ρ σ' A' →
    (∀ j : Nat, rb[j]? = some false → σ'[j]? = (vs.map some)[j]?) → ∃ A'', ROs P' H' A'' os' vs ∧ A''.Sublist A'
  | [], [], os', vs, A, A', ρ, σ', _, r, e, sl, _ => by
    have e : some [] = some os' := by cases ρ <;> exact e
    cases e
    exact ⟨[], ⟨rfl, r.2⟩, List.nil_sublist _⟩
  | [], _ :: _, _, _, _, _, _, _, h, _, _, _, _ => by cases h
  | _ :: _, [], _, _, _, _, _, _, h, _, _, _, _ => by cases h
  | b :: rb, o :: os, os', vs, A, A', [], σ', _, _, e, _, _ => by cases b <;> cases e
  | b :: rb, o :: os, os', vs, A, A', r :: ρ, σ', ok, ro, e, sl, hz => by
    obtain ⟨v, t, B1, B2, rfl, rfl, h1, h2⟩ := ro
    obtain ⟨s, σt, C1, C2, rfl, rfl, g1, g2⟩ := sl
    have ok : ((!b || isVal o) && okArgs rb os) = true := ok
    rw [Bool.and_eq_true] at ok
    have tail : ∀ os'', endArgs rb os ρ = some os'' → ∃ A'', ROs P' H' A'' os'' t ∧ A''.Sublist C2 := fun os'' e => end_args kp ok.2 h2 e g2 fun j hj => by
      have := hz (j + 1) (by simpa using hj)
      simpa using this
    cases b with
    | true =>
      have e : (endArgs rb os ρ).map (o :: ·) = some os' := e
      obtain ⟨os'', e1, rfl⟩ := map_some e
      obtain ⟨A'', h3, h4⟩ := tail _ e1
      cases o with
      | val d =>
        obtain ⟨rfl, rd⟩ := h1
        exact ⟨A'', ⟨v, t, [], A'', rfl, rfl, ⟨rfl, RD.keep kp _ _ rd⟩, h3⟩, h4.trans (List.sublist_append_right _ _)⟩
      | lst _ => cases ok.1
      | dct _ => cases ok.1
    | false =>
      cases r with
      | none => cases e
      | some o' =>
        have e : (endArgs rb os ρ).map (o' :: ·) = some os' := e
        obtain ⟨os'', e1, rfl⟩ := map_some e
        obtain ⟨A'', h3, h4⟩ := tail _ e1
        obtain ⟨w, hw, g1⟩ := g1
        have e0 := hz 0 rfl
        simp at e0
        rw [e0] at hw
        cases hw
        exact ⟨C1 ++ A'', ⟨v, t, C1, A'', rfl, rfl, g1, h3⟩, (List.Sublist.refl C1).append h4⟩
def fzOf (rb : List Bool) (j : Nat) : Bool := decide (rb[j]? = some false)
theorem ends_of {f : Fn} {os : List O} {vs : List V} {P H : Hp} {A : List Addr} {Q : VK} {s : S} {σ0 : St} (ok : okArgs f.rb os = true) (r : ROs P H A os vs) (h0 : ∀ j : Nat, j < f.rb.length → σ0[j]? = (vs.map some)[j]?) {mg : Str → Option Value} {xl : List Str} {E : XK} (out : CallOut mg xl P H A vs (kEnd f os s) Q E) :
    OutS (wishE mg xl E) (fzOf f.rb) { nx := fun _ H' => Q .non H', rt := Q } σ0 P H A s := by
  have hz : ∀ {σ' : St}, Fz (fzOf f.rb) σ0 σ' → ∀ j : Nat, f.rb[j]? = some false → σ'[j]? = (vs.map some)[j]? := fun {σ'} z j hj => by
    rw [z.2 j (decide_eq_true hj)]
    exact h0 j (by
      rcases Nat.lt_or_ge j f.rb.length with q | q
      · exact q
      · rw [List.getElem?_eq_none q] at hj; cases hj)
  cases s with
  | nx ρ' =>
    intro P' H' A' σ' x o n z
    simp only [kEnd] at out
    cases he : endArgs f.rb os ρ' with
    | none => rw [he] at out; exact out.elim
    | some os' =>
      rw [he] at out
      obtain ⟨A'', h1, h2⟩ := end_args x.keep ok r he o.sl (hz z)
      exact out P' H' A'' [] .non x o.sub h1 ⟨rfl, rd_none⟩ (by rw [List.append_nil]; exact o.nd.sublist h2) (by rw [List.append_nil]; exact fun a ha => n a (h2.subset ha))
  | rt v ρ' =>
    intro P' H' A' B σ' w x o ro nd n z
    simp only [kEnd] at out
    cases he : endArgs f.rb os ρ' with
    | none => rw [he] at out; exact out.elim
    | some os' =>
      rw [he] at out
      obtain ⟨A'', h1, h2⟩ := end_args x.keep ok r he o.sl (hz z)
      exact out P' H' A'' B w x o.sub h1 ro (nd.sublist (h2.append (List.Sublist.refl B))) fun a ha => n a ((h2.append (List.Sublist.refl B)).subset ha)
  | exc e ρ' => exact fun P' H' A' σ' x o n z P'' H'' cls d x2 sub2 ea => out P'' H'' cls d (x.trans (x2.mono fun _ q => by cases q) n) sub2 ea
  | bk ρ' => exact out.elim
  | ct ρ' => exact out.elim
  | bad => exact out
/-! ### the rows' defs with their terms -/
structure DefR where
  name : Str
  params : Arguments
  body : List Stmt
  scope : Scope
  N : List Str
  ps : List Str
  fn : Fn
abbrev RTbl := List DefR
def tbOf (rs : RTbl) : Tbl := fun x => (rs.find? fun r => decide (r.name = x)).map (·.fn)
structure Names where
  con : List (Str × D)
  free : List Str
  exc : List Str := []
def arOf (rs : RTbl) (x : Str) : Option (Nat × Nat) := (tbOf rs x).map fun f => (f.np, f.dfl.length)
def cfgOf (rs : RTbl) (nm : Names) (r : DefR) : Cfg := ⟨r.N, r.scope, arOf rs, nm.con, nm.free, nm.exc⟩
/-- how a def's parameters are bound -/
def Bd (r : DefR) : Prop :=
  (r.fn.dfl = [] ∧ ∀ (kV doc pm : Value) (an : Option Addr) (cdv ct : Value) (us : List Value), us.length = r.ps.length → bindArgs (PySem.W.fnOf r.name r.name r.params r.body r.scope .none kV doc pm an cdv ct) ⟨us, []⟩ = pure (r.ps.zip us)) ∨
  (r.fn.dfl ≠ [] ∧ ∀ n j : Nat, j ≤ r.fn.dfl.length → n + (r.fn.dfl.length - j) = r.ps.length → ∀ (T : Addr) (kV doc pm : Value) (an : Option Addr) (cdv ct : Value) (us its : List Value), us.length = n → its.length = r.fn.dfl.length →
      ∃ k, bindArgs (PySem.W.fnOf r.name r.name r.params r.body r.scope (.ref T) kV doc pm an cdv ct) ⟨us, []⟩ = seqItems? (.ref T) >>= k ∧ k (some its.toArray) = pure (r.ps.zip (us ++ its.drop j)))
/-- what is seen of a def's text -/
structure GoodD (rs : RTbl) (nm : Names) (fuel : Nat) (r : DefR) : Prop where
  sc : C8.scC r.N r.ps r.scope = true
  np : r.fn.np = r.ps.length
  n : r.fn.n = r.N.length
  rb : r.fn.rb.length = r.ps.length
  at_ : r.fn.dfl.all isAtom = true
  fz : fzSs (fzOf r.fn.rb) r.fn.body = true
  comp : r.body.map (compS fuel (cfgOf rs nm r)) = r.fn.body
  bd : Bd r
/-- what the head tells -/
structure HeadOk (P : Program) (w : World) (K : PySem.W.Frag) (mg : Str → Option Value) (rs : RTbl) (nm : Names) : Prop where
  fns : ∀ r ∈ rs, ∃ fd, FunD K r.name r.name r.params r.body r.scope (r.fn.dfl.map atomV) [] (He.ga K r.name) fd ∧ mg r.name = some (.ref (He.ga K r.name))
  con : ∀ x d, nm.con.lookup x = some d → isAtom d = true ∧ ∃ u, mg x = some u ∧ RelV (atomV d) u
  free : ∀ x ∈ nm.free, mg x = none
  exc : XcAll P w K mg nm.exc
theorem tb_mem {rs : RTbl} {x : Str} {f : Fn} (h : tbOf rs x = some f) : ∃ r ∈ rs, r.name = x ∧ r.fn = f ∧ tbOf rs r.name = some r.fn := by
  obtain ⟨r, e, rfl⟩ := map_some h
  have h1 := List.mem_of_find?_eq_some e
  have h2 : r.name = x := of_decide_eq_true (List.find?_some (p := fun r : DefR => decide (r.name = x)) e)
  exact ⟨r, h1, h2, rfl, by rw [h2]; exact h⟩
section
variable {P : Program} {w : World} {K : PySem.W.Frag} {mg : Str → Option Value} {base : Heap} {rs : RTbl} {nm : Names} {fuel W : Nat}
theorem binds_of {r : DefR} {fd : FuncData} {f : Addr} (g : Bd r) (F : FunD K r.name r.name r.params r.body r.scope (r.fn.dfl.map atomV) [] f fd) {m : Nat} (h1 : m ≤ r.ps.length) (h2 : r.ps.length ≤ m + r.fn.dfl.length) :
    ∃ ds, Vals ((r.fn.dfl.drop (m + r.fn.dfl.length - r.ps.length)).map atomV) ds ∧ Binds K fd r.ps ds := by
  rcases g with ⟨e, g⟩ | ⟨e, g⟩
  · rw [e] at F ⊢
    exact ⟨[], by rw [List.drop_nil]; exact .nil, F.bindsN g⟩
  · obtain ⟨ds, h3, h4⟩ := F.binds1 m (m + r.fn.dfl.length - r.ps.length) (by intro q; exact e (List.map_eq_nil_iff.mp q)) (by rw [List.length_map]; omega)
      (fun T kV doc pm an cdv ct us its l1 l2 => g m _ (by omega) (by omega) T kV doc pm an cdv ct us its l1 (by rw [l2, List.length_map]))
    exact ⟨ds, by rw [← List.map_drop] at h3; exact h3, h4⟩
def cxAt (rs : RTbl) (W n : Nat) : Ctx := ⟨fun g os' => match tbOf rs g with
  | some gd => runC (tbOf rs) W n g (withDfl gd os')
  | none => .bad, W⟩
theorem xok_of {Wx : Wish} {X : Cx} {r : DefR} {n : Nat} (hK : X.K = K) (hmg : X.mg = mg) (hb : X.base = base) (hP : X.prog = P) (hw : X.w = w) (hsc : X.env.scope = r.scope) (hN : X.N = r.N) (hc : X.calm = true) (hr : Room n X.A) (Hd : HeadOk P w K mg rs nm) (G : ∀ r ∈ rs, tbOf rs r.name = some r.fn → GoodD rs nm fuel r)
    (sc : C8.scC r.N r.ps r.scope = true)
    (IH : ∀ r ∈ rs, tbOf rs r.name = some r.fn → ∀ fd, FunD K r.name r.name r.params r.body r.scope (r.fn.dfl.map atomV) [] (He.ga K r.name) fd → FnOk P w K mg base (L2.CX P w) n (He.ga K r.name) fd r.ps (spF mg nm.exc r.fn.np (runC (tbOf rs) W n r.name)))
    (pass : ∃ E, Takes X (fun cls d _ H => E cls d H) ∧ ∀ e P H σ, Wx e P H σ → wishE X.mg nm.exc E e P H σ) : XOk Wx X (cfgOf rs nm r) (cxAt rs W n) n where
  sc := hsc
  N := hN
  nodup := (C8.fnScope_by sc).nd
  calm := hc
  room := hr
  con := fun x d h => by rw [hmg]; exact Hd.con x d h
  free := fun x h => by rw [hmg]; exact Hd.free x h
  pass := pass
  exc := by subst hK hmg hP hw; exact Hd.exc
  fns := fun x np nd h m h1 h2 => by
    obtain ⟨f, e1, e2⟩ := map_some (show (tbOf rs x).map (fun f => (f.np, f.dfl.length)) = some (np, nd) from h)
    cases e2
    obtain ⟨g, hg, rfl, rfl, e3⟩ := tb_mem e1
    obtain ⟨fd, F, hm⟩ := Hd.fns g hg
    have gd := G g hg e3
    rw [gd.np] at h1 h2
    obtain ⟨ds, d1, d2⟩ := binds_of gd.bd F h1 h2
    subst hK hmg hb hP hw
    refine ⟨⟨runC (tbOf rs) W n g.name, g.fn.dfl.drop (m + g.fn.dfl.length - g.ps.length), _, fd, g.ps, ds, IH g hg e3 fd F, hm, F.kp, d2, d1, ?_, ?_, fun os hl => ?_⟩⟩
    · exact List.all_eq_true.mpr fun d hd => List.all_eq_true.mp gd.at_ d (List.mem_of_mem_drop hd)
    · rw [List.length_drop, gd.np]; omega
    · simp only [cxAt, e3, withDfl, hl, gd.np]
theorem tbl_ok (Hd : HeadOk P w K mg rs nm) (G : ∀ r ∈ rs, tbOf rs r.name = some r.fn → GoodD rs nm fuel r) : ∀ n, ∀ r ∈ rs, tbOf rs r.name = some r.fn → ∀ fd, FunD K r.name r.name r.params r.body r.scope (r.fn.dfl.map atomV) [] (He.ga K r.name) fd →
    FnOk P w K mg base (L2.CX P w) n (He.ga K r.name) fd r.ps (spF mg nm.exc r.fn.np (runC (tbOf rs) W n r.name))
  | 0 => fun r hr e fd F => by
    have no : ∀ vs H Q E, ¬ spF mg nm.exc r.fn.np (runC (tbOf rs) W 0 r.name) vs H Q E := fun vs H Q E h => by
      obtain ⟨_, _, _, _, _, _, _, out⟩ := h
      exact out
    exact ⟨fun vs H Q E h => (no _ _ _ _ h).elim, fun A outer s H args us vs Q E _ _ _ _ h => (no _ _ _ _ h).elim⟩
  | n + 1 => fun r hr e fd F => by
    have gd := G r hr e
    refine F.ok (C8.fnScope_by gd.sc) (fun vs H Q E h => by rw [spF_len h, gd.np]) fun cdv A outer s H vs Q E hroom h => ?_
    obtain ⟨P0, A0, os, sub, ro, nd, hl, out⟩ := h
    refine ⟨tS (wishE mg nm.exc E) (fzOf r.fn.rb) (evSs (cxAt rs W n) r.fn.np r.fn.body), ?_, ?_⟩
    · have xo := xok_of (X := cxOf (L2.CX P w) P w K mg base r.N r.name r.scope (He.ga K r.name) cdv A outer s H E) (Wx := wishE mg nm.exc E) (fuel := fuel) (W := W) rfl rfl rfl rfl rfl rfl rfl rfl hroom Hd G gd.sc (tbl_ok Hd G n) ⟨E, takes_of rfl rfl rfl rfl, fun _ _ _ _ h => h⟩
      have so : SOk (wishE mg nm.exc E) (cxOf (L2.CX P w) P w K mg base r.N r.name r.scope (He.ga K r.name) cdv A outer s H E) (cfgOf rs nm r) (cxAt rs W n) n := ⟨xo, passes_of rfl, fun _ => rfl, rfl, rfl⟩
      have := pss_D (Wx := wishE mg nm.exc E) (np := r.fn.np) (snd_stm fuel) so (sts := r.body) (fz := fzOf r.fn.rb) (by rw [gd.comp]; exact gd.fz)
      rw [gd.comp] at this
      exact this
    · have out : CallOut mg nm.exc P0 H A0 vs (match tbOf rs r.name with
        | some fd => runFn (cxAt rs W n) fd os
        | none => .bad) Q E := out
      rw [e] at out
      have out : CallOut mg nm.exc P0 H A0 vs (runFn (cxAt rs W n) r.fn os) Q E := out
      unfold runFn at out
      split at out
      case isFalse => exact out.elim
      rename_i hok
      have lv : os.length = vs.length := ro.length
      refine ⟨P0, enter r.fn os, A0, ⟨sub, ?_, nd⟩, ?_⟩
      · show Slots P0 H (os.map some ++ List.replicate (r.fn.n - os.length) none) (vs.map some ++ List.replicate (r.N.length - vs.length) none) A0
        exact slots_args (by rw [gd.n, lv]) ro
      · refine ends_of hok ro (fun j hj => ?_) out
        unfold L2.start
        rw [List.getElem?_append_left]
        rw [List.length_map, ← lv, hl, gd.np, ← gd.rb]
        exact hj
end
end SW

set_option Elab.async false
set_option linter.all false
set_option maxRecDepth 100000
set_option maxHeartbeats 2000000
/-! a law: its own def, the head -/
namespace SW
open PySem PySem.Spec L2
open PyProof.Rows hiding St
/-! ### _law_draws -/
def isDraws : List Stmt → Bool
  | [.Return (some (.List [.Call (.Name x _) [.Name y _] [] _, .Constant (.int 0) _ _, .Constant (.int 0) _ _, .Constant (.int 1) _ _] _)) _] => decide (x = ("list" : Str)) && decide (y = ("script" : Str))
  | _ => false
theorem isDraws_eq {b : List Stmt} (h : isDraws b = true) : ∃ p1 p2 p3 k1 q1 k2 q2 k3 q3 p p', b = [.Return (some (.List [.Call (.Name "list" p1) [.Name "script" p2] [] p3, .Constant (.int 0) k1 q1, .Constant (.int 0) k2 q2, .Constant (.int 1) k3 q3] p)) p'] := by
  unfold isDraws at h
  split at h
  · simp only [Bool.and_eq_true, decide_eq_true_eq] at h
    obtain ⟨rfl, rfl⟩ := h
    exact ⟨_, _, _, _, _, _, _, _, _, _, _, rfl⟩
  · cases h
def spDraws (K : PySem.W.Frag) : Sp := fun vs H Q _ => ∃ (a : Addr) (ns : List Int), vs = [.ref a] ∧ SqL K H a (ns.map V.int) ∧ ∀ p q, H p = none → upd H p (.lst (ns.map V.int)) q = none → Q (.ref q) (upd (upd H p (.lst (ns.map V.int))) q (.lst [.ref p, .int 0, .int 0, .int 1]))
structure DrawsOk (nm : Names) (r : DefR) : Prop where
  name : r.name = ("_law_draws" : Str)
  N : r.N = [("script" : Str)]
  ps : r.ps = [("script" : Str)]
  dfl : r.fn.dfl = []
  sc : C8.scC r.N r.ps r.scope = true
  body : isDraws r.body = true
  vis : isVis r.scope "script" = true
  gl : r.scope.names.lookup ("list" : Str) = some .globalImplicit
  free : ("list" : Str) ∈ nm.free
  bd : Bd r
section
variable {P : Program} {w : World} {K : PySem.W.Frag} {mg : Str → Option Value} {base : Heap} {rs : RTbl} {nm : Names} {fuel W : Nat}
theorem draws_ok {r : DefR} {fd : FuncData} (D : DrawsOk nm r) (hfree : ∀ x ∈ nm.free, mg x = none) (F : FunD K r.name r.name r.params r.body r.scope (r.fn.dfl.map atomV) [] (He.ga K r.name) fd) : FnOk P w K mg base CX0 1 (He.ga K r.name) fd r.ps (spDraws K) := by
  refine F.ok (C8.fnScope_by D.sc) (fun vs H Q E h => by obtain ⟨a, ns, rfl, _⟩ := h; rw [D.ps]; rfl) fun cdv A outer s H vs Q E hroom h => ?_
  obtain ⟨p1, p2, p3, k1, q1, k2, q2, k3, q3, p, p', eb⟩ := isDraws_eq D.body
  rw [eb]
  refine ⟨tRet (tLst (tCons (tCB _ (tCons (tVar 0) tNil)) (tCons (tC (.int 0)) (tCons (tC (.int 0)) (tCons (tC (.int 1)) tNil))))), PSs.nox (pss_one (ps_ret (pe_lst (pa_cons (pe_callTy (call_list_of) ?_ (hfree _ D.free) boot_list (pa_cons (pe_var (i := 0) ?_ ?_) pa_nil)) (pa_cons pe_int (pa_cons pe_int (pa_cons pe_int pa_nil))))))), ?_⟩
  · exact D.gl
  · show r.N[0]? = _
    rw [D.N]; rfl
  · exact vis_of D.vis
  · obtain ⟨a, ns, rfl, hS, hQ⟩ := h
    refine ⟨.ref a, ?_, a, ns.map V.int, rfl, .inl hS, fun q hq => ⟨by show 4 ≤ sizeLine; decide, fun q' hq' => hQ q q' hq hq'⟩⟩
    show (L2.start r.N [.ref a])[0]? = _
    rw [D.N]; rfl
/-! ### the law's own def -/
def lawRho (L i : Nat) (ns : List Int) : Rho := (List.replicate L none).set i (some (.lst [.list (ns.map .int), .int 0, .int 0, .int 1]))
def spLaw (K : PySem.W.Frag) (most : Nat) : Sp := fun vs H Q _ => ∃ (a : Addr) (ns : List Int), vs = [.ref a] ∧ ns.length ≤ most ∧ SqL K H a (ns.map V.int) ∧ ∀ H', Q (.bl true) H'
def isFirst : List Stmt → Option (Str × List Stmt)
  | .Assign [.Name y _] (.Call (.Name x _) [.Name z _] [] _) _ :: rest => if decide (x = ("_law_draws" : Str)) && decide (z = ("script" : Str)) then some (y, rest) else none
  | _ => none
theorem isFirst_eq {b rest : List Stmt} {y : Str} (h : isFirst b = some (y, rest)) : ∃ p1 p2 p3 p4 p5, b = .Assign [.Name y p1] (.Call (.Name "_law_draws" p2) [.Name "script" p3] [] p4) p5 :: rest := by
  unfold isFirst at h
  split at h
  · obtain ⟨hh, e⟩ := Option.ite_none_right_eq_some.mp h
    simp only [Bool.and_eq_true, decide_eq_true_eq] at hh
    obtain ⟨rfl, rfl⟩ := hh
    cases e
    exact ⟨_, _, _, _, _, rfl⟩
  · cases h
/-- the law's def; its term: what stands behind its first statement -/
structure LawOk (rs : RTbl) (nm : Names) (fuel : Nat) (r : DefR) (y : Str) (i : Nat) (rest : List Stmt) : Prop where
  name : r.name = ("law" : Str)
  ps : r.ps = [("script" : Str)]
  N0 : r.N[0]? = some ("script" : Str)
  Ni : r.N[i]? = some y
  dfl : r.fn.dfl = []
  sc : C8.scC r.N r.ps r.scope = true
  body : isFirst r.body = some (y, rest)
  vis : isVis r.scope "script" = true
  loc : isLoc ⟨r.N, r.scope, fun _ => none, [], [], []⟩ y = true
  gl : r.scope.names.lookup ("_law_draws" : Str) = some .globalImplicit
  comp : rest.map (compS fuel (cfgOf rs nm r)) = r.fn.body
  fz : fzSs (fun _ => false) r.fn.body = true
  bd : Bd r
theorem slots_any {P H : Hp} : ∀ (σ : St), Slots P H (List.replicate σ.length none) σ []
  | [] => ⟨rfl, rfl⟩
  | s :: σ => ⟨s, σ, [], [], rfl, rfl, rfl, slots_any σ⟩
theorem rds_ints {P : Hp} : ∀ ns : List Int, RDs P (ns.map PyData.int) (ns.map V.int)
  | [] => .nil
  | n :: ns => .cons rd_int (rds_ints ns)
theorem law_ok {r rd : DefR} {fd : FuncData} {y : Str} {i n most : Nat} {rest : List Stmt} (hn : 1 ≤ n) (L : LawOk rs nm fuel r y i rest) (hrd : rd ∈ rs) (D : DrawsOk nm rd) (Hd : HeadOk P w K mg rs nm) (G : ∀ r ∈ rs, tbOf rs r.name = some r.fn → GoodD rs nm fuel r)
    (F : FunD K r.name r.name r.params r.body r.scope (r.fn.dfl.map atomV) [] (He.ga K r.name) fd)
    (plain : ∀ ns : List Int, ns.length ≤ most → ∃ ρ', evSs (cxAt rs W n) r.fn.np r.fn.body (lawRho r.N.length i ns) = .rt (.val (.bool true)) ρ') :
    FnOk P w K mg base CX0 (n + 1) (He.ga K r.name) fd r.ps (spLaw K most) := by
  refine F.ok (C8.fnScope_by L.sc) (fun vs H Q E h => by obtain ⟨a, ns, rfl, _⟩ := h; rw [L.ps]; rfl) fun cdv A outer s H vs Q E hroom h => ?_
  obtain ⟨p1, p2, p3, p4, p5, eb⟩ := isFirst_eq L.body
  obtain ⟨fdD, FD, hmD⟩ := Hd.fns rd hrd
  have okD : FnOk P w K mg base CX0 n (He.ga K rd.name) fdD rd.ps (spDraws K) := (draws_ok D Hd.free FD).mono hn
  obtain ⟨ds, hds, bD⟩ := binds_of (m := 1) D.bd FD (by rw [D.ps]; decide) (by rw [D.ps]; simp)
  rw [D.dfl] at hds
  rw [List.drop_nil, List.map_nil] at hds
  cases hds
  have xo := xok_of (X := (cxOf CX0 P w K mg base r.N r.name r.scope (He.ga K r.name) cdv A outer s H E).nox) (r := r) (fuel := fuel) (W := W) rfl rfl rfl rfl rfl rfl rfl rfl hroom Hd G L.sc (tbl_ok Hd G n) (Wx := noWish) ⟨E0, takesE0, fun _ _ _ _ h => h.elim⟩
  have so : SOk noWish (cxOf CX0 P w K mg base r.N r.name r.scope (He.ga K r.name) cdv A outer s H E).nox (cfgOf rs nm r) (cxAt rs W n) n := ⟨xo, PassesOwn.never, fun _ => rfl, rfl, rfl⟩
  have hrest := pss_D (Wx := noWish) (np := r.fn.np) (snd_stm fuel) so (sts := rest) (fz := fun _ => false) (by rw [L.comp]; exact L.fz)
  rw [L.comp] at hrest
  rw [eb]
  have hloc : L2.Loc r.scope y := by
    have := L.loc
    unfold isLoc at this
    unfold L2.Loc
    split at this <;> simp_all
  have nd := (C8.fnScope_by L.sc).nd
  have hmD' : mg ("_law_draws" : Str) = some (.ref (He.ga K rd.name)) := by rw [← D.name]; exact hmD
  refine ⟨tSeq (tAsg (tCall (spDraws K) [] E0 (tCons (tVar 0) tNil)) (gName i)) (tS noWish (fun _ => false) (evSs (cxAt rs W n) r.fn.np r.fn.body)), PSs.nox (pss_cons (ps_set nd L.Ni hloc (pe_call okD hroom L.gl hmD' FD.kp bD .nil pass0 (pa_cons (pe_var (i := 0) L.N0 (vis_of L.vis)) pa_nil)) rfl (.inl rfl)) hrest), ?_⟩
  obtain ⟨a, ns, rfl, hlen, hS, hQ⟩ := h
  have hN : r.N.length ≠ 0 := fun e => by
    have := L.N0
    rw [List.eq_nil_of_length_eq_zero e] at this
    cases this
  have hst : (L2.start r.N [V.ref a]).length = r.N.length := by
    unfold L2.start
    rw [List.length_append, List.length_map, List.length_replicate]
    simp only [List.length_cons, List.length_nil]
    omega
  have hi : i < r.N.length := by
    rcases Nat.lt_or_ge i r.N.length with q | q
    · exact q
    · have := L.Ni; rw [List.getElem?_eq_none q] at this; cases this
  refine ⟨.ref a, rfl, a, ns, rfl, hS, fun p q hp hq => ?_⟩
  have hpq : q ≠ p := fun e => by subst e; rw [upd_same] at hq; cases hq
  obtain ⟨ρ', hev⟩ := plain ns hlen
  have hPq : upd (fun _ => none) p (HO.lst (ns.map V.int)) q = none := upd_ne hpq
  have hPp : upd (fun _ => none) p (HO.lst (ns.map V.int)) p = some (HO.lst (ns.map V.int)) := upd_same
  have hro : RO (upd (fun _ => none) p (HO.lst (ns.map V.int))) (upd (upd H p (.lst (ns.map V.int))) q (.lst [.ref p, .int 0, .int 0, .int 1])) [q] (.lst [.list (ns.map .int), .int 0, .int 0, .int 1]) (.ref q) := by
    refine ⟨q, _, rfl, rfl, upd_same, hPq, .cons ?_ (.cons rd_int (.cons rd_int (.cons rd_int .nil)))⟩
    rw [RD]
    exact ⟨p, _, rfl, .inl hPp, rds_ints ns⟩
  obtain ⟨A1, A0, A2, e0, sl⟩ := Slots.put (X := []) (P := upd (fun _ => none) p (HO.lst (ns.map V.int))) (H := upd (upd H p (.lst (ns.map V.int))) q (.lst [.ref p, .int 0, .int 0, .int 1])) Ext.refl i (slots_any (L2.start r.N [V.ref a])) (fun _ _ => List.not_mem_nil) hro (by rw [List.length_replicate, hst]; exact hi)
  have e1 : A1 = [] := by cases A1 with
    | nil => rfl
    | cons _ _ => cases e0
  subst e1
  have e2 : A2 = [] := by
    have : A0 ++ A2 = [] := e0.symm
    exact (List.append_eq_nil_iff.mp this).2
  subst e2
  rw [hst] at sl
  refine ⟨_, lawRho r.N.length i ns, _, ⟨fun b o e => ?_, sl, by simp⟩, ?_⟩
  · by_cases eb : b = p
    · subst eb
      rw [upd_ne (Ne.symm hpq), upd_same]
      rw [upd_same] at e
      exact e
    · rw [upd_ne eb] at e; cases e
  · rw [hev]
    intro P' H' A' B σ' v x o ro nd' n' z
    have : v = .bl true := by
      have := ro.2
      rw [RD] at this
      exact this
    rw [this]
    exact hQ H'
end
/-! ### the head -/
def dvOf : D → He.Dv
  | .none => .non
  | .bool b => .bl b
  | .int i => .int i
  | .str x => .str x
  | _ => .non
def defD (r : DefR) : He.DefD := ⟨(r.name, none), r.name, r.name, r.params, r.body, r.scope, r.fn.dfl.map dvOf, []⟩
def conFa : Str × D → He.Fa
  | (x, .int i) => .int x i
  | (x, .str s) => .str x s
  | (x, _) => .glo x
def faOf (rs : RTbl) (nm : Names) : List He.Fa := (rs.map fun r => .glo r.name) ++ (nm.con.map conFa ++ nm.free.map .free)
theorem dv_atoms {K : PySem.W.Frag} : ∀ {ds : List D}, ds.all isAtom = true → (ds.map dvOf).map (He.Dv.v K) = ds.map atomV
  | [], _ => rfl
  | d :: ds, h => by
    rw [List.all_cons, Bool.and_eq_true] at h
    rw [List.map_cons, List.map_cons, List.map_cons, dv_atoms h.2]
    cases d with
    | none => rfl
    | bool _ => rfl
    | int _ => rfl
    | str _ => rfl
    | list _ => exact absurd h.1 Bool.false_ne_true
    | tuple _ => exact absurd h.1 Bool.false_ne_true
    | dict _ => exact absurd h.1 Bool.false_ne_true
theorem head_of {P : Program} {w : World} {K : PySem.W.Frag} {h : Heap} {mg : Str → Option Value} {rs : RTbl} {nm : Names} (X : K.In h) (G : h.Ns mainGlobals mg) (c : He.SaysD (faOf rs nm) (rs.map defD) K) (ha : ∀ r ∈ rs, r.fn.dfl.all isAtom = true) (hcon : (nm.con.all fun p => match p.2 with | .int _ => true | .str _ => true | _ => false) = true) (hx : XcAll P w K mg nm.exc) : HeadOk P w K mg rs nm where
  exc := hx
  fns := fun r hr => by
    obtain ⟨fd, F⟩ := He.SaysD.defs c (d := defD r) (List.mem_map.mpr ⟨r, hr, rfl⟩)
    have f := He.SaysD.facts c (f := .glo r.name) (List.mem_append_left _ (List.mem_map.mpr ⟨r, hr, rfl⟩))
    refine ⟨fd, ?_, He.glo_ok X G f⟩
    have e : He.DefD.dvs K (defD r) = r.fn.dfl.map atomV := dv_atoms (ha r hr)
    rw [e] at F
    exact F
  con := fun x d hl => by
    have hm := PySem.mem_of_lookup hl
    have f := He.SaysD.facts c (f := conFa (x, d)) (List.mem_append_right _ (List.mem_append_left _ (List.mem_map.mpr ⟨(x, d), hm, rfl⟩)))
    have hd := List.all_eq_true.mp hcon (x, d) hm
    cases d with
    | int i =>
      obtain ⟨t, e⟩ := He.int_ok X G f
      exact ⟨rfl, _, e, t, rfl⟩
    | str s =>
      obtain ⟨t, e⟩ := He.str_ok X G f
      exact ⟨rfl, _, e, t, rfl⟩
    | _ => cases hd
  free := fun x hx => He.free_ok X G (He.SaysD.facts c (f := .free x) (List.mem_append_right _ (List.mem_append_right _ (List.mem_map.mpr ⟨x, hx, rfl⟩))))
end SW

set_option Elab.async false
set_option linter.all false
set_option maxRecDepth 100000
set_option maxHeartbeats 2000000
/-! for the plain statements -/
namespace SW
open PySem PySem.Spec L2
open PyProof.Rows hiding St
/-! ### the frames, case by case -/
@[simp] theorem E_O_data_1 : ∀ (d : SW.D), (SW.O.val d).data = d := @SW.O.data.eq_1
@[simp] theorem E_O_data_2 : ∀ (ds : List SW.D), (SW.O.lst ds).data = PySem.PyData.list ds := @SW.O.data.eq_2
@[simp] theorem E_O_data_3 : ∀ (kvs : List (SW.D × SW.D)), (SW.O.dct kvs).data = PySem.PyData.dict kvs := @SW.O.data.eq_3
@[simp] theorem E_look_1 : ∀ (x : SW.Rho) (i : Nat), SW.look (SW.A.pl i) x = Option.map SW.O.data (SW.slot x i) := @SW.look.eq_1
@[simp] theorem E_look_2 : ∀ (x : SW.Rho) (o : SW.O), SW.look (SW.A.vl o) x = Option.some o.data := @SW.look.eq_2
@[simp] theorem E_frz_1 : ∀ (x : SW.Rho) (o : SW.O), SW.frz (SW.A.vl o) x = Option.some (o.data, x) := @SW.frz.eq_1
@[simp] theorem E_frz_2 : ∀ (x : SW.Rho) (i : Nat),
  SW.frz (SW.A.pl i) x =
    match SW.slot x i with
    | Option.some (SW.O.val d) => Option.some (d, x)
    | Option.some o => Option.some (o.data, List.set x i (Option.some (SW.O.val o.data)))
    | Option.none => Option.none := @SW.frz.eq_2
@[simp] theorem E_take_1 : ∀ (x : SW.Rho) (o : SW.O), SW.take (SW.A.vl o) x = Option.some (o, x) := @SW.take.eq_1
@[simp] theorem E_take_2 : ∀ (x : SW.Rho) (i : Nat),
  SW.take (SW.A.pl i) x =
    match SW.slot x i with
    | Option.some (SW.O.val d) => Option.some (SW.O.val d, x)
    | Option.some o => Option.some (SW.O.val o.data, List.set x i (Option.some (SW.O.val o.data)))
    | Option.none => Option.none := @SW.take.eq_2
@[simp] theorem E_give_1 : ∀ (np : Nat) (x : SW.Rho) (o : SW.O), SW.give np (SW.A.vl o) x = Option.some (o, x) := @SW.give.eq_1
@[simp] theorem E_give_2 : ∀ (np : Nat) (x : SW.Rho) (i : Nat),
  SW.give np (SW.A.pl i) x =
    match SW.slot x i with
    | Option.some (SW.O.val d) => Option.some (SW.O.val d, x)
    | Option.some o =>
      if i < np then Option.some (SW.O.val o.data, List.set x i (Option.some (SW.O.val o.data)))
      else Option.some (o, List.set x i Option.none)
    | Option.none => Option.none := @SW.give.eq_2
@[simp] theorem E_rO_1 : ∀ (ρ : SW.Rho) (o_2 : SW.O), SW.rO (Option.some o_2) ρ = SW.R.ok (SW.A.vl o_2) ρ := @SW.rO.eq_1
@[simp] theorem E_rO_2 : ∀ (ρ : SW.Rho), SW.rO Option.none ρ = SW.R.bad := @SW.rO.eq_2
@[simp] theorem E_rD_1 : ∀ (ρ : SW.Rho) (d : SW.D), SW.rD (Option.some d) ρ = SW.R.ok (SW.A.vl (SW.O.val d)) ρ := @SW.rD.eq_1
@[simp] theorem E_rD_2 : ∀ (ρ : SW.Rho), SW.rD Option.none ρ = SW.R.bad := @SW.rD.eq_2
@[simp] theorem E_rB_1 : ∀ (ρ : SW.Rho) (b : Bool), SW.rB (Option.some b) ρ = SW.R.ok (SW.A.vl (SW.O.val (PySem.PyData.bool b))) ρ := @SW.rB.eq_1
@[simp] theorem E_rB_2 : ∀ (ρ : SW.Rho), SW.rB Option.none ρ = SW.R.bad := @SW.rB.eq_2
@[simp] theorem E_kLook_1 : ∀ {α : Type} (f : SW.D → SW.Rho → SW.R α) (x_1 : SW.A) (ρ : SW.Rho),
  SW.kLook f (SW.R.ok x_1 ρ) =
    match SW.look x_1 ρ with
    | Option.some d => f d ρ
    | Option.none => SW.R.bad := @SW.kLook.eq_1
@[simp] theorem E_kLook_2 : ∀ {α : Type} (f : SW.D → SW.Rho → SW.R α) (e : SW.Exn) (ρ : SW.Rho), SW.kLook f (SW.R.exc e ρ) = SW.R.exc e ρ := @SW.kLook.eq_2
@[simp] theorem E_kLook_3 : ∀ {α : Type} (f : SW.D → SW.Rho → SW.R α), SW.kLook f SW.R.bad = SW.R.bad := @SW.kLook.eq_3
@[simp] theorem E_kFrz_1 : ∀ {α : Type} (f : SW.D → SW.Rho → SW.R α) (x_1 : SW.A) (ρ : SW.Rho),
  SW.kFrz f (SW.R.ok x_1 ρ) =
    match SW.frz x_1 ρ with
    | Option.some (d, ρ') => f d ρ'
    | Option.none => SW.R.bad := @SW.kFrz.eq_1
@[simp] theorem E_kFrz_2 : ∀ {α : Type} (f : SW.D → SW.Rho → SW.R α) (e : SW.Exn) (ρ : SW.Rho), SW.kFrz f (SW.R.exc e ρ) = SW.R.exc e ρ := @SW.kFrz.eq_2
@[simp] theorem E_kFrz_3 : ∀ {α : Type} (f : SW.D → SW.Rho → SW.R α), SW.kFrz f SW.R.bad = SW.R.bad := @SW.kFrz.eq_3
@[simp] theorem E_kBin1_1 : ∀ (f : SW.D → SW.D → SW.Rho → SW.R SW.A) (eb : SW.Rho → SW.R SW.A) (x_1 : SW.A) (ρ : SW.Rho),
  SW.kBin1 f eb (SW.R.ok x_1 ρ) = SW.kBin2 f x_1 (eb ρ) := @SW.kBin1.eq_1
@[simp] theorem E_kBin1_2 : ∀ (f : SW.D → SW.D → SW.Rho → SW.R SW.A) (eb : SW.Rho → SW.R SW.A) (e : SW.Exn) (ρ : SW.Rho),
  SW.kBin1 f eb (SW.R.exc e ρ) = SW.R.exc e ρ := @SW.kBin1.eq_2
@[simp] theorem E_kBin1_3 : ∀ (f : SW.D → SW.D → SW.Rho → SW.R SW.A) (eb : SW.Rho → SW.R SW.A), SW.kBin1 f eb SW.R.bad = SW.R.bad := @SW.kBin1.eq_3
@[simp] theorem E_kBin2_1 : ∀ (f : SW.D → SW.D → SW.Rho → SW.R SW.A) (x x_2 : SW.A) (ρ : SW.Rho),
  SW.kBin2 f x (SW.R.ok x_2 ρ) =
    match SW.look x ρ, SW.look x_2 ρ with
    | Option.some d, Option.some e => f d e ρ
    | x, x_1 => SW.R.bad := @SW.kBin2.eq_1
@[simp] theorem E_kBin2_2 : ∀ (f : SW.D → SW.D → SW.Rho → SW.R SW.A) (x : SW.A) (e : SW.Exn) (ρ : SW.Rho),
  SW.kBin2 f x (SW.R.exc e ρ) = SW.R.exc e ρ := @SW.kBin2.eq_2
@[simp] theorem E_kBin2_3 : ∀ (f : SW.D → SW.D → SW.Rho → SW.R SW.A) (x : SW.A), SW.kBin2 f x SW.R.bad = SW.R.bad := @SW.kBin2.eq_3
@[simp] theorem E_fNeg_1 : ∀ (ρ : SW.Rho) (i : Int), SW.fNeg (PySem.PyData.int i) ρ = SW.R.ok (SW.A.vl (SW.O.val (PySem.PyData.int (-i)))) ρ := @SW.fNeg.eq_1
@[simp] theorem E_fNeg_2 : ∀ (d : SW.D) (ρ : SW.Rho), (∀ (i : Int), d = PySem.PyData.int i → False) → SW.fNeg d ρ = SW.R.bad := @SW.fNeg.eq_2
@[simp] theorem E_fNot_1 : ∀ (ρ : SW.Rho) (b : Bool), SW.fNot (PySem.PyData.bool b) ρ = SW.R.ok (SW.A.vl (SW.O.val (PySem.PyData.bool !b))) ρ := @SW.fNot.eq_1
@[simp] theorem E_fNot_2 : ∀ (d : SW.D) (ρ : SW.Rho), (∀ (b : Bool), d = PySem.PyData.bool b → False) → SW.fNot d ρ = SW.R.bad := @SW.fNot.eq_2
@[simp] theorem E_kChn1_1 : ∀ (op1 op2 : PySem.CmpOp) (eb ec : SW.Rho → SW.R SW.A) (x_1 : SW.A) (ρ : SW.Rho),
  SW.kChn1 op1 op2 eb ec (SW.R.ok x_1 ρ) = SW.kChn2 op1 op2 ec x_1 (eb ρ) := @SW.kChn1.eq_1
@[simp] theorem E_kChn1_2 : ∀ (op1 op2 : PySem.CmpOp) (eb ec : SW.Rho → SW.R SW.A) (e : SW.Exn) (ρ : SW.Rho),
  SW.kChn1 op1 op2 eb ec (SW.R.exc e ρ) = SW.R.exc e ρ := @SW.kChn1.eq_2
@[simp] theorem E_kChn1_3 : ∀ (op1 op2 : PySem.CmpOp) (eb ec : SW.Rho → SW.R SW.A), SW.kChn1 op1 op2 eb ec SW.R.bad = SW.R.bad := @SW.kChn1.eq_3
@[simp] theorem E_kChn2_1 : ∀ (op1 op2 : PySem.CmpOp) (ec : SW.Rho → SW.R SW.A) (x x_2 : SW.A) (ρ : SW.Rho),
  SW.kChn2 op1 op2 ec x (SW.R.ok x_2 ρ) =
    match SW.look x ρ, SW.look x_2 ρ with
    | Option.some d, Option.some e =>
      match SW.cmpD op1 d e with
      | Option.some b =>
        bif b then SW.kBin2 (SW.fCmp op2) x_2 (ec ρ) else SW.R.ok (SW.A.vl (SW.O.val (PySem.PyData.bool Bool.false))) ρ
      | Option.none => SW.R.bad
    | x, x_1 => SW.R.bad := @SW.kChn2.eq_1
@[simp] theorem E_kChn2_2 : ∀ (op1 op2 : PySem.CmpOp) (ec : SW.Rho → SW.R SW.A) (x : SW.A) (e : SW.Exn) (ρ : SW.Rho),
  SW.kChn2 op1 op2 ec x (SW.R.exc e ρ) = SW.R.exc e ρ := @SW.kChn2.eq_2
@[simp] theorem E_kChn2_3 : ∀ (op1 op2 : PySem.CmpOp) (ec : SW.Rho → SW.R SW.A) (x : SW.A), SW.kChn2 op1 op2 ec x SW.R.bad = SW.R.bad := @SW.kChn2.eq_3
@[simp] theorem E_kTst_1 : ∀ {α : Type} (y n : SW.Rho → SW.R α) (x_1 : SW.A) (ρ : SW.Rho),
  SW.kTst y n (SW.R.ok x_1 ρ) =
    match SW.look x_1 ρ with
    | Option.some (PySem.PyData.bool b) => bif b then y ρ else n ρ
    | x => SW.R.bad := @SW.kTst.eq_1
@[simp] theorem E_kTst_2 : ∀ {α : Type} (y n : SW.Rho → SW.R α) (e : SW.Exn) (ρ : SW.Rho), SW.kTst y n (SW.R.exc e ρ) = SW.R.exc e ρ := @SW.kTst.eq_2
@[simp] theorem E_kTst_3 : ∀ {α : Type} (y n : SW.Rho → SW.R α), SW.kTst y n SW.R.bad = SW.R.bad := @SW.kTst.eq_3
@[simp] theorem E_kVals2_1 : ∀ (d : SW.D) (ds : List SW.D) (ρ : SW.Rho), SW.kVals2 d (SW.R.ok ds ρ) = SW.R.ok (d :: ds) ρ := @SW.kVals2.eq_1
@[simp] theorem E_kVals2_2 : ∀ (d : SW.D) (e : SW.Exn) (ρ : SW.Rho), SW.kVals2 d (SW.R.exc e ρ) = SW.R.exc e ρ := @SW.kVals2.eq_2
@[simp] theorem E_kVals2_3 : ∀ (d : SW.D), SW.kVals2 d SW.R.bad = SW.R.bad := @SW.kVals2.eq_3
@[simp] theorem E_kTup_1 : ∀ (ds : List SW.D) (ρ : SW.Rho), SW.kTup (SW.R.ok ds ρ) = SW.R.ok (SW.A.vl (SW.O.val (PySem.PyData.tuple ds))) ρ := @SW.kTup.eq_1
@[simp] theorem E_kTup_2 : ∀ (e : SW.Exn) (ρ : SW.Rho), SW.kTup (SW.R.exc e ρ) = SW.R.exc e ρ := @SW.kTup.eq_2
@[simp] theorem E_kTup_3 : SW.kTup SW.R.bad = SW.R.bad := @SW.kTup.eq_3
@[simp] theorem E_kLst_1 : ∀ (ds : List SW.D) (ρ : SW.Rho), SW.kLst (SW.R.ok ds ρ) = SW.R.ok (SW.A.vl (SW.O.lst ds)) ρ := @SW.kLst.eq_1
@[simp] theorem E_kLst_2 : ∀ (e : SW.Exn) (ρ : SW.Rho), SW.kLst (SW.R.exc e ρ) = SW.R.exc e ρ := @SW.kLst.eq_2
@[simp] theorem E_kLst_3 : SW.kLst SW.R.bad = SW.R.bad := @SW.kLst.eq_3
@[simp] theorem E_kSlc1_1 : ∀ (el eh : SW.Rho → SW.R (Option Int)) (x_1 : SW.A) (ρ : SW.Rho),
  SW.kSlc1 el eh (SW.R.ok x_1 ρ) = SW.kSlc2 eh x_1 (el ρ) := @SW.kSlc1.eq_1
@[simp] theorem E_kSlc1_2 : ∀ (el eh : SW.Rho → SW.R (Option Int)) (e : SW.Exn) (ρ : SW.Rho), SW.kSlc1 el eh (SW.R.exc e ρ) = SW.R.exc e ρ := @SW.kSlc1.eq_2
@[simp] theorem E_kSlc1_3 : ∀ (el eh : SW.Rho → SW.R (Option Int)), SW.kSlc1 el eh SW.R.bad = SW.R.bad := @SW.kSlc1.eq_3
@[simp] theorem E_kSlc2_1 : ∀ (eh : SW.Rho → SW.R (Option Int)) (x : SW.A) (hi : Option Int) (ρ : SW.Rho),
  SW.kSlc2 eh x (SW.R.ok hi ρ) = SW.kSlc3 x hi (eh ρ) := @SW.kSlc2.eq_1
@[simp] theorem E_kSlc2_2 : ∀ (eh : SW.Rho → SW.R (Option Int)) (x : SW.A) (e : SW.Exn) (ρ : SW.Rho), SW.kSlc2 eh x (SW.R.exc e ρ) = SW.R.exc e ρ := @SW.kSlc2.eq_2
@[simp] theorem E_kSlc2_3 : ∀ (eh : SW.Rho → SW.R (Option Int)) (x : SW.A), SW.kSlc2 eh x SW.R.bad = SW.R.bad := @SW.kSlc2.eq_3
@[simp] theorem E_kSlc3_1 : ∀ (x : SW.A) (lo hi : Option Int) (ρ : SW.Rho),
  SW.kSlc3 x lo (SW.R.ok hi ρ) =
    match SW.look x ρ with
    | Option.some d => SW.rO (SW.slcD d lo hi) ρ
    | Option.none => SW.R.bad := @SW.kSlc3.eq_1
@[simp] theorem E_kSlc3_2 : ∀ (x : SW.A) (lo : Option Int) (e : SW.Exn) (ρ : SW.Rho), SW.kSlc3 x lo (SW.R.exc e ρ) = SW.R.exc e ρ := @SW.kSlc3.eq_2
@[simp] theorem E_kSlc3_3 : ∀ (x : SW.A) (lo : Option Int), SW.kSlc3 x lo SW.R.bad = SW.R.bad := @SW.kSlc3.eq_3
@[simp] theorem E_fPart_1 : ∀ (ρ : SW.Rho) (i : Int), SW.fPart (PySem.PyData.int i) ρ = SW.R.ok (Option.some i) ρ := @SW.fPart.eq_1
@[simp] theorem E_fPart_2 : ∀ (d : SW.D) (ρ : SW.Rho), (∀ (i : Int), d = PySem.PyData.int i → False) → SW.fPart d ρ = SW.R.bad := @SW.fPart.eq_2
@[simp] theorem E_lend_1 : ∀ (i : Nat) (ρ : SW.Rho),
  SW.lend i ρ =
    match SW.slot ρ i with
    | Option.some (SW.O.val d) => Option.some ({ o := SW.O.val d, back := Option.none }, ρ)
    | Option.some o => Option.some ({ o := o, back := Option.some i }, List.set ρ i Option.none)
    | Option.none => Option.none := @SW.lend.eq_1
@[simp] theorem E_lend1_1 : ∀ (x : SW.Rho) (o : SW.O), SW.lend1 (SW.A.vl o) x = Option.some ({ o := o, back := Option.none }, x) := @SW.lend1.eq_1
@[simp] theorem E_lend1_2 : ∀ (x : SW.Rho) (i : Nat), SW.lend1 (SW.A.pl i) x = SW.lend i x := @SW.lend1.eq_2
@[simp] theorem E_kAs1_1 : ∀ (es : SW.Rho → SW.R (List SW.A)) (x_1 : SW.A) (ρ : SW.Rho), SW.kAs1 es (SW.R.ok x_1 ρ) = SW.kAs2 x_1 (es ρ) := @SW.kAs1.eq_1
@[simp] theorem E_kAs1_2 : ∀ (es : SW.Rho → SW.R (List SW.A)) (e : SW.Exn) (ρ : SW.Rho), SW.kAs1 es (SW.R.exc e ρ) = SW.R.exc e ρ := @SW.kAs1.eq_2
@[simp] theorem E_kAs1_3 : ∀ (es : SW.Rho → SW.R (List SW.A)), SW.kAs1 es SW.R.bad = SW.R.bad := @SW.kAs1.eq_3
@[simp] theorem E_kAs2_1 : ∀ (x : SW.A) (xs : List SW.A) (ρ : SW.Rho), SW.kAs2 x (SW.R.ok xs ρ) = SW.R.ok (x :: xs) ρ := @SW.kAs2.eq_1
@[simp] theorem E_kAs2_2 : ∀ (x : SW.A) (e : SW.Exn) (ρ : SW.Rho), SW.kAs2 x (SW.R.exc e ρ) = SW.R.exc e ρ := @SW.kAs2.eq_2
@[simp] theorem E_kAs2_3 : ∀ (x : SW.A), SW.kAs2 x SW.R.bad = SW.R.bad := @SW.kAs2.eq_3
@[simp] theorem E_kRet_1 : ∀ (gs : List SW.Ag) (ρ : SW.Rho) (o : SW.O) (os : List SW.O),
  SW.kRet gs ρ (SW.C.ok o os) = SW.R.ok (SW.A.vl o) (SW.putBack gs os ρ) := @SW.kRet.eq_1
@[simp] theorem E_kRet_2 : ∀ (gs : List SW.Ag) (ρ : SW.Rho) (e : SW.Exn) (os : List SW.O), SW.kRet gs ρ (SW.C.exc e os) = SW.R.exc e ρ := @SW.kRet.eq_2
@[simp] theorem E_kRet_3 : ∀ (gs : List SW.Ag) (ρ : SW.Rho), SW.kRet gs ρ SW.C.bad = SW.R.bad := @SW.kRet.eq_3
@[simp] theorem E_kCall_1 : ∀ (call : List SW.O → SW.C) (xs : List SW.A) (ρ : SW.Rho),
  SW.kCall call (SW.R.ok xs ρ) =
    match SW.lendAll xs ρ with
    | Option.some (gs, ρ') => SW.kRet gs ρ' (call (List.map (fun x => x.o) gs))
    | Option.none => SW.R.bad := @SW.kCall.eq_1
@[simp] theorem E_kCall_2 : ∀ (call : List SW.O → SW.C) (e : SW.Exn) (ρ : SW.Rho), SW.kCall call (SW.R.exc e ρ) = SW.R.exc e ρ := @SW.kCall.eq_2
@[simp] theorem E_kCall_3 : ∀ (call : List SW.O → SW.C), SW.kCall call SW.R.bad = SW.R.bad := @SW.kCall.eq_3
@[simp] theorem E_kDct_1 : ∀ (ks ds : List SW.D) (ρ : SW.Rho),
  SW.kDct ks (SW.R.ok ds ρ) =
    match SW.dputAll [] (ks.zip ds) with
    | Option.some kvs => SW.R.ok (SW.A.vl (SW.O.dct kvs)) ρ
    | Option.none => SW.R.bad := @SW.kDct.eq_1
@[simp] theorem E_kDct_2 : ∀ (ks : List SW.D) (e : SW.Exn) (ρ : SW.Rho), SW.kDct ks (SW.R.exc e ρ) = SW.R.exc e ρ := @SW.kDct.eq_2
@[simp] theorem E_kDct_3 : ∀ (ks : List SW.D), SW.kDct ks SW.R.bad = SW.R.bad := @SW.kDct.eq_3
@[simp] theorem E_kMth1_1 : ∀ (m : SW.Mth) (es : SW.Rho → SW.R (List SW.D)) (x_1 : SW.A) (ρ : SW.Rho),
  SW.kMth1 m es (SW.R.ok x_1 ρ) =
    match SW.look x_1 ρ with
    | Option.some d => if SW.tyName d = SW.mthTy m then SW.kMth2 m x_1 (es ρ) else SW.R.bad
    | Option.none => SW.R.bad := @SW.kMth1.eq_1
@[simp] theorem E_kMth1_2 : ∀ (m : SW.Mth) (es : SW.Rho → SW.R (List SW.D)) (e : SW.Exn) (ρ : SW.Rho), SW.kMth1 m es (SW.R.exc e ρ) = SW.R.exc e ρ := @SW.kMth1.eq_2
@[simp] theorem E_kMth1_3 : ∀ (m : SW.Mth) (es : SW.Rho → SW.R (List SW.D)), SW.kMth1 m es SW.R.bad = SW.R.bad := @SW.kMth1.eq_3
@[simp] theorem E_kMth2_1 : ∀ (m : SW.Mth) (x : SW.A) (ds : List SW.D) (ρ : SW.Rho),
  SW.kMth2 m x (SW.R.ok ds ρ) =
    match SW.look x ρ with
    | Option.some d => SW.rO (SW.mthD m d ds) ρ
    | Option.none => SW.R.bad := @SW.kMth2.eq_1
@[simp] theorem E_kMth2_2 : ∀ (m : SW.Mth) (x : SW.A) (e : SW.Exn) (ρ : SW.Rho), SW.kMth2 m x (SW.R.exc e ρ) = SW.R.exc e ρ := @SW.kMth2.eq_2
@[simp] theorem E_kMth2_3 : ∀ (m : SW.Mth) (x : SW.A), SW.kMth2 m x SW.R.bad = SW.R.bad := @SW.kMth2.eq_3
@[simp] theorem E_mthTy_1 : SW.mthTy SW.Mth.get1 = "dict" := @SW.mthTy.eq_1
@[simp] theorem E_mthTy_2 : SW.mthTy SW.Mth.get2 = "dict" := @SW.mthTy.eq_2
@[simp] theorem E_mthTy_3 : SW.mthTy SW.Mth.join = "str" := @SW.mthTy.eq_3
@[simp] theorem E_mthTy_4 : SW.mthTy SW.Mth.upper = "str" := @SW.mthTy.eq_4
@[simp] theorem E_kMut_1 : ∀ (m : SW.Mut) (i : Nat) (ds : List SW.D) (ρ : SW.Rho),
  SW.kMut m i (SW.R.ok ds ρ) =
    match SW.slot ρ i with
    | Option.some (SW.O.lst xs) =>
      match SW.mutD m xs ds with
      | Option.some (y, xs') => SW.R.ok (SW.A.vl (SW.O.val y)) (List.set ρ i (Option.some (SW.O.lst xs')))
      | Option.none => SW.R.bad
    | x => SW.R.bad := @SW.kMut.eq_1
@[simp] theorem E_kMut_2 : ∀ (m : SW.Mut) (i : Nat) (e : SW.Exn) (ρ : SW.Rho), SW.kMut m i (SW.R.exc e ρ) = SW.R.exc e ρ := @SW.kMut.eq_2
@[simp] theorem E_kMut_3 : ∀ (m : SW.Mut) (i : Nat), SW.kMut m i SW.R.bad = SW.R.bad := @SW.kMut.eq_3
@[simp] theorem E_MT_slots_1 : ∀ (i : Nat), (SW.MT.name i).slots = [i] := @SW.MT.slots.eq_1
@[simp] theorem E_MT_slots_2 : ∀ (is : List Nat), (SW.MT.tup is).slots = is := @SW.MT.slots.eq_2
@[simp] theorem E_bindT_1 : ∀ (x : SW.O) (x_1 : SW.Rho) (i : Nat), SW.bindT (SW.MT.name i) x x_1 = Option.some (List.set x_1 i (Option.some x)) := @SW.bindT.eq_1
@[simp] theorem E_bindT_2 : ∀ (x : SW.O) (x_1 : SW.Rho) (is : List Nat),
  SW.bindT (SW.MT.tup is) x x_1 =
    match x.data with
    | PySem.PyData.tuple ds => SW.bindL is ds x_1
    | x => Option.none := @SW.bindT.eq_2
@[simp] theorem E_kSome_1 : ∀ (d : SW.D) (ρ : SW.Rho), SW.kSome (SW.R.ok d ρ) = SW.R.ok (Option.some d) ρ := @SW.kSome.eq_1
@[simp] theorem E_kSome_2 : ∀ (e : SW.Exn) (ρ : SW.Rho), SW.kSome (SW.R.exc e ρ) = SW.R.exc e ρ := @SW.kSome.eq_2
@[simp] theorem E_kSome_3 : SW.kSome SW.R.bad = SW.R.bad := @SW.kSome.eq_3
@[simp] theorem E_kRng_1 : ∀ (f : List SW.D → SW.Rho → SW.R SW.A) (ds : List SW.D) (ρ : SW.Rho),
  SW.kRng f (SW.R.ok ds ρ) =
    match SW.rngD ds with
    | Option.some is => f is ρ
    | Option.none => SW.R.bad := @SW.kRng.eq_1
@[simp] theorem E_kRng_2 : ∀ (f : List SW.D → SW.Rho → SW.R SW.A) (e : SW.Exn) (ρ : SW.Rho), SW.kRng f (SW.R.exc e ρ) = SW.R.exc e ρ := @SW.kRng.eq_2
@[simp] theorem E_kRng_3 : ∀ (f : List SW.D → SW.Rho → SW.R SW.A), SW.kRng f SW.R.bad = SW.R.bad := @SW.kRng.eq_3
@[simp] theorem E_kBind_1 : ∀ (t : SW.MT) (x_1 : SW.A) (ρ : SW.Rho),
  SW.kBind t (SW.R.ok x_1 ρ) =
    match SW.take x_1 ρ with
    | Option.some (o, ρ') =>
      match SW.bindT t o ρ' with
      | Option.some ρ2 => SW.S.nx ρ2
      | Option.none => SW.S.bad
    | Option.none => SW.S.bad := @SW.kBind.eq_1
@[simp] theorem E_kBind_2 : ∀ (t : SW.MT) (e : SW.Exn) (ρ : SW.Rho), SW.kBind t (SW.R.exc e ρ) = SW.S.exc e ρ := @SW.kBind.eq_2
@[simp] theorem E_kBind_3 : ∀ (t : SW.MT), SW.kBind t SW.R.bad = SW.S.bad := @SW.kBind.eq_3
@[simp] theorem E_kPar_1 (i j : Nat) (x y : A) (ρ : Rho) : kPar i j (.ok [x, y] ρ) = (match newO x ρ, newO y ρ with
    | some o, some o' => .nx ((ρ.set i (some o)).set j (some o'))
    | _, _ => .bad) := rfl
@[simp] theorem E_kPar_2 (i j : Nat) (e : Exn) (ρ : Rho) : kPar i j (.exc e ρ) = .exc e ρ := rfl
@[simp] theorem E_kPar_3 (i j : Nat) : kPar i j .bad = .bad := rfl
@[simp] theorem E_newO_1 (o : O) (ρ : Rho) : newO (.vl o) ρ = some o := rfl
@[simp] theorem E_newO_2 (i : Nat) (ρ : Rho) : newO (.pl i) ρ = (match slot ρ i with
    | some (.val d) => some (.val d)
    | _ => none) := rfl
@[simp] theorem E_kMn_1 (m : Bool) (i j : Int) (ρ : Rho) : kMn m (.ok [.int i, .int j] ρ) = .ok (.vl (.val (.int (mnI m i j)))) ρ := rfl
@[simp] theorem E_subO_1 : ∀ (v : SW.D) (xs : List SW.D) (j : Int),
  SW.subO (SW.O.lst xs) (PySem.PyData.int j) v = Option.map (fun m => SW.O.lst (xs.set m v)) (L2.ixN xs.length j) := @SW.subO.eq_1
@[simp] theorem E_subO_2 : ∀ (k v : SW.D) (kvs : List (SW.D × SW.D)),
  SW.subO (SW.O.dct kvs) k v =
    if SW.keyFits kvs k = Bool.true ∧ kvs.length < PySem.sizeLine then Option.some (SW.O.dct (SW.dput kvs k v))
    else Option.none := @SW.subO.eq_2
@[simp] theorem E_subO_3 : ∀ (o : SW.O) (k v : SW.D),
  (∀ (kvs : List (SW.D × SW.D)), o = SW.O.dct kvs → False) →
    (∀ (xs : List SW.D) (j : Int), o = SW.O.lst xs → k = PySem.PyData.int j → False) → SW.subO o k v = Option.none := @SW.subO.eq_3
@[simp] theorem E_kFrzS_1 : ∀ (f : SW.D → SW.Rho → SW.S) (x_1 : SW.A) (ρ : SW.Rho),
  SW.kFrzS f (SW.R.ok x_1 ρ) =
    match SW.frz x_1 ρ with
    | Option.some (d, ρ') => f d ρ'
    | Option.none => SW.S.bad := @SW.kFrzS.eq_1
@[simp] theorem E_kFrzS_2 : ∀ (f : SW.D → SW.Rho → SW.S) (e : SW.Exn) (ρ : SW.Rho), SW.kFrzS f (SW.R.exc e ρ) = SW.S.exc e ρ := @SW.kFrzS.eq_2
@[simp] theorem E_kFrzS_3 : ∀ (f : SW.D → SW.Rho → SW.S), SW.kFrzS f SW.R.bad = SW.S.bad := @SW.kFrzS.eq_3
@[simp] theorem E_kSeq_1 : ∀ (f : SW.Rho → SW.S) (ρ : SW.Rho), SW.kSeq f (SW.S.nx ρ) = f ρ := @SW.kSeq.eq_1
@[simp] theorem E_kSeq_2 : ∀ (f : SW.Rho → SW.S) (o : SW.O) (ρ : SW.Rho), SW.kSeq f (SW.S.rt o ρ) = SW.S.rt o ρ := @SW.kSeq.eq_2
@[simp] theorem E_kSeq_3 : ∀ (f : SW.Rho → SW.S) (ρ : SW.Rho), SW.kSeq f (SW.S.bk ρ) = SW.S.bk ρ := @SW.kSeq.eq_3
@[simp] theorem E_kSeq_4 : ∀ (f : SW.Rho → SW.S) (ρ : SW.Rho), SW.kSeq f (SW.S.ct ρ) = SW.S.ct ρ := @SW.kSeq.eq_4
@[simp] theorem E_kSeq_5 : ∀ (f : SW.Rho → SW.S) (e : SW.Exn) (ρ : SW.Rho), SW.kSeq f (SW.S.exc e ρ) = SW.S.exc e ρ := @SW.kSeq.eq_5
@[simp] theorem E_kSeq_6 : ∀ (f : SW.Rho → SW.S), SW.kSeq f SW.S.bad = SW.S.bad := @SW.kSeq.eq_6
@[simp] theorem E_kSwp2_1 : ∀ (i : Nat) (k1 k2 : SW.Rho → SW.R SW.A) (v1 v2 : SW.D) (ρ : SW.Rho),
  SW.kSwp2 i k1 k2 (SW.R.ok [v1, v2] ρ) = SW.kSeq (SW.kSub1 i k2 v2) (SW.kSub1 i k1 v1 ρ) := @SW.kSwp2.eq_1
@[simp] theorem E_kSwp2_2 : ∀ (i : Nat) (k1 k2 : SW.Rho → SW.R SW.A) (x_1 : List SW.D) (ρ : SW.Rho),
  (∀ (v1 v2 : SW.D), x_1 = [v1, v2] → False) → SW.kSwp2 i k1 k2 (SW.R.ok x_1 ρ) = SW.S.bad := @SW.kSwp2.eq_2
@[simp] theorem E_kSwp2_3 : ∀ (i : Nat) (k1 k2 : SW.Rho → SW.R SW.A) (e : SW.Exn) (ρ : SW.Rho), SW.kSwp2 i k1 k2 (SW.R.exc e ρ) = SW.S.exc e ρ := @SW.kSwp2.eq_3
@[simp] theorem E_kSwp2_4 : ∀ (i : Nat) (k1 k2 : SW.Rho → SW.R SW.A), SW.kSwp2 i k1 k2 SW.R.bad = SW.S.bad := @SW.kSwp2.eq_4
@[simp] theorem E_augO_1 : ∀ (i j : Int),
  SW.augO PySem.Operator.Add (PySem.PyData.int i) (PySem.PyData.int j) = Option.some (PySem.PyData.int (i + j)) := @SW.augO.eq_1
@[simp] theorem E_augO_2 : ∀ (i j : Int),
  SW.augO PySem.Operator.Sub (PySem.PyData.int i) (PySem.PyData.int j) = Option.some (PySem.PyData.int (i - j)) := @SW.augO.eq_2
@[simp] theorem E_augO_3 : ∀ (op : PySem.Operator) (d e : SW.D),
  (∀ (i j : Int), op = PySem.Operator.Add → d = PySem.PyData.int i → e = PySem.PyData.int j → False) →
    (∀ (i j : Int), op = PySem.Operator.Sub → d = PySem.PyData.int i → e = PySem.PyData.int j → False) →
      SW.augO op d e = Option.none := @SW.augO.eq_3
@[simp] theorem E_kAug_1 : ∀ (i : Nat) (op : PySem.Operator) (x : SW.O) (x_2 : SW.A) (ρ : SW.Rho),
  SW.kAug i op x (SW.R.ok x_2 ρ) =
    match SW.look x_2 ρ with
    | Option.some e =>
      match SW.augO op x.data e with
      | Option.some d => SW.S.nx (List.set ρ i (Option.some (SW.O.val d)))
      | Option.none => SW.S.bad
    | Option.none => SW.S.bad := @SW.kAug.eq_1
@[simp] theorem E_kAug_2 : ∀ (i : Nat) (op : PySem.Operator) (x : SW.O) (e : SW.Exn) (ρ : SW.Rho), SW.kAug i op x (SW.R.exc e ρ) = SW.S.exc e ρ := @SW.kAug.eq_2
@[simp] theorem E_kAug_3 : ∀ (i : Nat) (op : PySem.Operator) (x : SW.O), SW.kAug i op x SW.R.bad = SW.S.bad := @SW.kAug.eq_3
@[simp] theorem E_kExpr_1 : ∀ (x_1 : SW.A) (ρ : SW.Rho), SW.kExpr (SW.R.ok x_1 ρ) = SW.S.nx ρ := @SW.kExpr.eq_1
@[simp] theorem E_kExpr_2 : ∀ (e : SW.Exn) (ρ : SW.Rho), SW.kExpr (SW.R.exc e ρ) = SW.S.exc e ρ := @SW.kExpr.eq_2
@[simp] theorem E_kExpr_3 : SW.kExpr SW.R.bad = SW.S.bad := @SW.kExpr.eq_3
@[simp] theorem E_kRetS_1 : ∀ (np : Nat) (x_1 : SW.A) (ρ : SW.Rho),
  SW.kRetS np (SW.R.ok x_1 ρ) =
    match SW.give np x_1 ρ with
    | Option.some (o, ρ') => SW.S.rt o ρ'
    | Option.none => SW.S.bad := @SW.kRetS.eq_1
@[simp] theorem E_kRetS_2 : ∀ (np : Nat) (e : SW.Exn) (ρ : SW.Rho), SW.kRetS np (SW.R.exc e ρ) = SW.S.exc e ρ := @SW.kRetS.eq_2
@[simp] theorem E_kRetS_3 : ∀ (np : Nat), SW.kRetS np SW.R.bad = SW.S.bad := @SW.kRetS.eq_3
@[simp] theorem E_kTstS_1 : ∀ (y n : SW.Rho → SW.S) (x_1 : SW.A) (ρ : SW.Rho),
  SW.kTstS y n (SW.R.ok x_1 ρ) =
    match SW.look x_1 ρ with
    | Option.some (PySem.PyData.bool b) => bif b then y ρ else n ρ
    | x => SW.S.bad := @SW.kTstS.eq_1
@[simp] theorem E_kTstS_2 : ∀ (y n : SW.Rho → SW.S) (e : SW.Exn) (ρ : SW.Rho), SW.kTstS y n (SW.R.exc e ρ) = SW.S.exc e ρ := @SW.kTstS.eq_2
@[simp] theorem E_kTstS_3 : ∀ (y n : SW.Rho → SW.S), SW.kTstS y n SW.R.bad = SW.S.bad := @SW.kTstS.eq_3
@[simp] theorem E_kLoop_1 : ∀ (f : SW.Rho → SW.S) (ρ : SW.Rho), SW.kLoop f (SW.S.nx ρ) = f ρ := @SW.kLoop.eq_1
@[simp] theorem E_kLoop_2 : ∀ (f : SW.Rho → SW.S) (ρ : SW.Rho), SW.kLoop f (SW.S.ct ρ) = f ρ := @SW.kLoop.eq_2
@[simp] theorem E_kLoop_3 : ∀ (f : SW.Rho → SW.S) (ρ : SW.Rho), SW.kLoop f (SW.S.bk ρ) = SW.S.nx ρ := @SW.kLoop.eq_3
@[simp] theorem E_kLoop_4 : ∀ (f : SW.Rho → SW.S) (o : SW.O) (ρ : SW.Rho), SW.kLoop f (SW.S.rt o ρ) = SW.S.rt o ρ := @SW.kLoop.eq_4
@[simp] theorem E_kLoop_5 : ∀ (f : SW.Rho → SW.S) (e : SW.Exn) (ρ : SW.Rho), SW.kLoop f (SW.S.exc e ρ) = SW.S.exc e ρ := @SW.kLoop.eq_5
@[simp] theorem E_kLoop_6 : ∀ (f : SW.Rho → SW.S), SW.kLoop f SW.S.bad = SW.S.bad := @SW.kLoop.eq_6
@[simp] theorem E_kFor_1 : ∀ (f : List SW.D → SW.Rho → SW.S) (x_1 : SW.A) (ρ : SW.Rho),
  SW.kFor f (SW.R.ok x_1 ρ) =
    match SW.frz x_1 ρ with
    | Option.some (d, ρ') =>
      match SW.items d with
      | Option.some ds => f ds ρ'
      | Option.none => SW.S.bad
    | Option.none => SW.S.bad := @SW.kFor.eq_1
@[simp] theorem E_kFor_2 : ∀ (f : List SW.D → SW.Rho → SW.S) (e : SW.Exn) (ρ : SW.Rho), SW.kFor f (SW.R.exc e ρ) = SW.S.exc e ρ := @SW.kFor.eq_2
@[simp] theorem E_kFor_3 : ∀ (f : List SW.D → SW.Rho → SW.S), SW.kFor f SW.R.bad = SW.S.bad := @SW.kFor.eq_3
@[simp] theorem E_kForR_1 : ∀ (f : List SW.D → SW.Rho → SW.S) (ds : List SW.D) (ρ : SW.Rho),
  SW.kForR f (SW.R.ok ds ρ) =
    match SW.rngD ds with
    | Option.some is => f is ρ
    | Option.none => SW.S.bad := @SW.kForR.eq_1
@[simp] theorem E_kForR_2 : ∀ (f : List SW.D → SW.Rho → SW.S) (e : SW.Exn) (ρ : SW.Rho), SW.kForR f (SW.R.exc e ρ) = SW.S.exc e ρ := @SW.kForR.eq_2
@[simp] theorem E_kForR_3 : ∀ (f : List SW.D → SW.Rho → SW.S), SW.kForR f SW.R.bad = SW.S.bad := @SW.kForR.eq_3
@[simp] theorem E_isVal_1 : ∀ (d : SW.D), SW.isVal (SW.O.val d) = Bool.true := @SW.isVal.eq_1
@[simp] theorem E_isVal_2 : ∀ (x : SW.O), (∀ (d : SW.D), x = SW.O.val d → False) → SW.isVal x = Bool.false := @SW.isVal.eq_2
@[simp] theorem E_kEnd_1 : ∀ (f : SW.Fn) (os : List SW.O) (ρ : SW.Rho),
  SW.kEnd f os (SW.S.nx ρ) =
    match SW.endArgs f.rb os ρ with
    | Option.some os' => SW.C.ok (SW.O.val PySem.PyData.none) os'
    | Option.none => SW.C.bad := @SW.kEnd.eq_1
@[simp] theorem E_kEnd_2 : ∀ (f : SW.Fn) (os : List SW.O) (o : SW.O) (ρ : SW.Rho),
  SW.kEnd f os (SW.S.rt o ρ) =
    match SW.endArgs f.rb os ρ with
    | Option.some os' => SW.C.ok o os'
    | Option.none => SW.C.bad := @SW.kEnd.eq_2
@[simp] theorem E_kEnd_3 : ∀ (f : SW.Fn) (os : List SW.O) (e : SW.Exn) (ρ : SW.Rho),
  SW.kEnd f os (SW.S.exc e ρ) = SW.C.exc e [] := @SW.kEnd.eq_3
@[simp] theorem E_kRz (C : Str) (r : R A) : kRz C r = kFrzS (fun d ρ => .exc ⟨C, d⟩ ρ) r := rfl
@[simp] theorem E_kTryS_rt (hs : List (Str × Str)) (o : O) (ρ : Rho) : kTryS hs (.rt o ρ) = .rt o ρ := rfl
@[simp] theorem E_kTryS_exc (hs : List (Str × Str)) (e : Exn) (ρ : Rho) : kTryS hs (.exc e ρ) = (match hs.find? fun h => catches h.1 e.cls with
    | some h => .rt (.val (.tuple [.str h.2, e.arg])) ρ
    | none => .bad) := rfl
@[simp] theorem E_kTryS_bad (hs : List (Str × Str)) : kTryS hs .bad = .bad := rfl
@[simp] theorem E_kEnd_4 : ∀ (f : SW.Fn) (os : List SW.O) (x : SW.S),
  (∀ (ρ : SW.Rho), x = SW.S.nx ρ → False) →
    (∀ (o : SW.O) (ρ : SW.Rho), x = SW.S.rt o ρ → False) →
      (∀ (e : SW.Exn) (ρ : SW.Rho), x = SW.S.exc e ρ → False) → SW.kEnd f os x = SW.C.bad := @SW.kEnd.eq_4
@[simp] theorem E_tyName_1 : SW.tyName PySem.PyData.none = "NoneType" := @SW.tyName.eq_1
@[simp] theorem E_tyName_2 : ∀ (b : Bool), SW.tyName (PySem.PyData.bool b) = "bool" := @SW.tyName.eq_2
@[simp] theorem E_tyName_3 : ∀ (i : Int), SW.tyName (PySem.PyData.int i) = "int" := @SW.tyName.eq_3
@[simp] theorem E_tyName_4 : ∀ (s : PySem.Str), SW.tyName (PySem.PyData.str s) = "str" := @SW.tyName.eq_4
@[simp] theorem E_tyName_5 : ∀ (xs : List PySem.PyData), SW.tyName (PySem.PyData.list xs) = "list" := @SW.tyName.eq_5
@[simp] theorem E_tyName_6 : ∀ (xs : List PySem.PyData), SW.tyName (PySem.PyData.tuple xs) = "tuple" := @SW.tyName.eq_6
@[simp] theorem E_tyName_7 : ∀ (kvs : List (PySem.PyData × PySem.PyData)), SW.tyName (PySem.PyData.dict kvs) = "dict" := @SW.tyName.eq_7
@[simp] theorem E_bltD_1 : ∀ (x : SW.D), SW.bltD SW.Blt.len x = Option.map (fun n => SW.O.val (PySem.PyData.int n)) (SW.lenD x) := @SW.bltD.eq_1
@[simp] theorem E_bltD_2 : ∀ (ds : List PySem.PyData), SW.bltD SW.Blt.list (PySem.PyData.list ds) = Option.some (SW.O.lst ds) := @SW.bltD.eq_2
@[simp] theorem E_bltD_3 : ∀ (ds : List PySem.PyData), SW.bltD SW.Blt.list (PySem.PyData.tuple ds) = Option.some (SW.O.lst ds) := @SW.bltD.eq_3
@[simp] theorem E_bltD_4 : ∀ (ds : List PySem.PyData), SW.bltD SW.Blt.tuple (PySem.PyData.list ds) = Option.some (SW.O.val (PySem.PyData.tuple ds)) := @SW.bltD.eq_4
@[simp] theorem E_bltD_5 : ∀ (ds : List PySem.PyData),
  SW.bltD SW.Blt.tuple (PySem.PyData.tuple ds) = Option.some (SW.O.val (PySem.PyData.tuple ds)) := @SW.bltD.eq_5
@[simp] theorem E_bltD_6 : ∀ (i : Int), SW.bltD SW.Blt.int (PySem.PyData.int i) = Option.some (SW.O.val (PySem.PyData.int i)) := @SW.bltD.eq_6
@[simp] theorem E_bltD_7 : ∀ (b : Bool),
  SW.bltD SW.Blt.int (PySem.PyData.bool b) = Option.some (SW.O.val (PySem.PyData.int (if b = Bool.true then 1 else 0))) := @SW.bltD.eq_7
@[simp] theorem E_bltD_8 : ∀ (ds : List PySem.PyData),
  SW.bltD SW.Blt.all (PySem.PyData.list ds) =
    Option.map (fun bs => SW.O.val (PySem.PyData.bool (bs.all id))) (SW.boolsOf ds) := @SW.bltD.eq_8
@[simp] theorem E_bltD_9 : ∀ (ds : List PySem.PyData),
  SW.bltD SW.Blt.any (PySem.PyData.list ds) =
    Option.map (fun bs => SW.O.val (PySem.PyData.bool (bs.any id))) (SW.boolsOf ds) := @SW.bltD.eq_9
@[simp] theorem E_bltD_10 : ∀ (ds : List PySem.PyData), SW.bltD SW.Blt.sorted (PySem.PyData.list ds) = SW.srtD ds := @SW.bltD.eq_10
@[simp] theorem E_bltD_11 : ∀ (ds : List PySem.PyData),
  SW.bltD SW.Blt.dict (PySem.PyData.list ds) =
    if ds.length ≤ 1000000 then Option.map SW.O.dct ((SW.pairsOf ds).bind (SW.dputAll [])) else Option.none := @SW.bltD.eq_11
@[simp] theorem E_bltD_12 (kvs : List (SW.D × SW.D)) : SW.bltD SW.Blt.dict (PySem.PyData.dict kvs) = if (kvs.all fun p => SW.isKey1 p.1) = Bool.true then Option.some (SW.O.dct kvs) else Option.none := rfl
@[simp] theorem E_bltD_13 (kvs : List (SW.D × SW.D)) : SW.bltD SW.Blt.list (PySem.PyData.dict kvs) = if (kvs.all fun p => SW.isKey1 p.1) = Bool.true then Option.some (SW.O.lst (kvs.map (·.1))) else Option.none := rfl
@[simp] theorem E_bltD_14 (i : Int) : SW.bltD SW.Blt.str (PySem.PyData.int i) = if i.natAbs.log2 < 1920 then Option.some (SW.O.val (.str (PySem.Str.ofString (toString i)))) else Option.none := rfl
@[simp] theorem E_unD_1 (ds : List SW.D) : SW.unD SW.Uop.srtSet (PySem.PyData.list ds) = if ds.length < 64 then SW.srtSetD ds else Option.none := rfl
@[simp] theorem E_unD_2 (kvs : List (SW.D × SW.D)) : SW.unD SW.Uop.itms (PySem.PyData.dict kvs) = if (kvs.all fun p => SW.isKey1 p.1) = Bool.true then Option.some (SW.O.lst (kvs.map fun p => .tuple [p.1, p.2])) else Option.none := rfl
@[simp] theorem E_unD_3 (ds : List SW.D) : SW.unD SW.Uop.rev (PySem.PyData.list ds) = Option.some (SW.O.lst ds.reverse) := rfl
@[simp] theorem E_fUn_1 (u : SW.Uop) (d : SW.D) (ρ : SW.Rho) : SW.fUn u d ρ = SW.rO (SW.unD u d) ρ := rfl
@[simp] theorem E_mthD_1 : ∀ (kvs : List (PySem.PyData × PySem.PyData)) (k : SW.D),
  SW.mthD SW.Mth.get1 (PySem.PyData.dict kvs) [k] =
    if SW.keyFits kvs k = Bool.true then Option.some (SW.O.val ((SW.dget kvs k).getD PySem.PyData.none))
    else Option.none := @SW.mthD.eq_1
@[simp] theorem E_mthD_2 : ∀ (kvs : List (PySem.PyData × PySem.PyData)) (k v : SW.D),
  SW.mthD SW.Mth.get2 (PySem.PyData.dict kvs) [k, v] =
    if SW.keyFits kvs k = Bool.true then Option.some (SW.O.val ((SW.dget kvs k).getD v)) else Option.none := @SW.mthD.eq_2
@[simp] theorem E_mthD_3 : ∀ (y : PySem.Str) (ds : List PySem.PyData),
  SW.mthD SW.Mth.join (PySem.PyData.str y) [PySem.PyData.list ds] = SW.mthD.joined y ds := @SW.mthD.eq_3
@[simp] theorem E_mthD_4 : ∀ (y : PySem.Str) (ds : List PySem.PyData),
  SW.mthD SW.Mth.join (PySem.PyData.str y) [PySem.PyData.tuple ds] = SW.mthD.joined y ds := @SW.mthD.eq_4
@[simp] theorem E_mthD_5 : ∀ (x_3 : PySem.Str),
  SW.mthD SW.Mth.upper (PySem.PyData.str x_3) [] =
    if x_3.length ≤ 5592405 then Option.some (SW.O.val (PySem.PyData.str (PySem.Txt.upper x_3))) else Option.none := @SW.mthD.eq_5
@[simp] theorem E_mthD_6 : ∀ (x : SW.Mth) (x_1 : SW.D) (x_2 : List SW.D),
  (∀ (kvs : List (PySem.PyData × PySem.PyData)) (k : SW.D),
      x = SW.Mth.get1 → x_1 = PySem.PyData.dict kvs → x_2 = [k] → False) →
    (∀ (kvs : List (PySem.PyData × PySem.PyData)) (k v : SW.D),
        x = SW.Mth.get2 → x_1 = PySem.PyData.dict kvs → x_2 = [k, v] → False) →
      (∀ (y : PySem.Str) (ds : List PySem.PyData),
          x = SW.Mth.join → x_1 = PySem.PyData.str y → x_2 = [PySem.PyData.list ds] → False) →
        (∀ (y : PySem.Str) (ds : List PySem.PyData),
            x = SW.Mth.join → x_1 = PySem.PyData.str y → x_2 = [PySem.PyData.tuple ds] → False) →
          (∀ (x_3 : PySem.Str), x = SW.Mth.upper → x_1 = PySem.PyData.str x_3 → x_2 = [] → False) →
            SW.mthD x x_1 x_2 = Option.none := @SW.mthD.eq_6
@[simp] theorem E_mutD_1 : ∀ (x : List SW.D) (d : SW.D),
  SW.mutD SW.Mut.append x [d] =
    if x.length < PySem.sizeLine then Option.some (PySem.PyData.none, x ++ [d]) else Option.none := @SW.mutD.eq_1
@[simp] theorem E_mutD_2 : ∀ (x : List SW.D), SW.mutD SW.Mut.pop0 x [] = Option.map (fun y => (y, x.dropLast)) x[x.length - 1]? := @SW.mutD.eq_2
@[simp] theorem E_mutD_3 : ∀ (x : List SW.D) (i : Int),
  SW.mutD SW.Mut.popAt x [PySem.PyData.int i] =
    if -2 ^ 63 ≤ i ∧ i < 2 ^ 63 then
      (PySem.seqIndex? i x.length).bind fun k => Option.map (fun y => (y, x.eraseIdx k)) x[k]?
    else Option.none := @SW.mutD.eq_3
@[simp] theorem E_mutD_4 : ∀ (x : SW.Mut) (x_1 x_2 : List SW.D),
  (∀ (d : SW.D), x = SW.Mut.append → x_2 = [d] → False) →
    (x = SW.Mut.pop0 → x_2 = [] → False) →
      (∀ (i : Int), x = SW.Mut.popAt → x_2 = [PySem.PyData.int i] → False) → SW.mutD x x_1 x_2 = Option.none := @SW.mutD.eq_4
@[simp] theorem E_slcD_1 : ∀ (lo hi : Option Int) (ds : List PySem.PyData),
  SW.slcD (PySem.PyData.list ds) lo hi = Option.some (SW.O.lst (SW.cutL ds lo hi)) := @SW.slcD.eq_1
theorem E_slcD_2 : ∀ (lo hi : Option Int) (ds : List PySem.PyData), SW.slcD (PySem.PyData.tuple ds) lo hi = Option.some (SW.O.val (PySem.PyData.tuple (SW.cutL ds lo hi))) := @SW.slcD.eq_2
@[simp] theorem E_slcD_3 : ∀ (lo hi : Option Int) (x_1 : PySem.Str),
  SW.slcD (PySem.PyData.str x_1) lo hi =
    if x_1.length ≤ PySem.sizeLine then Option.some (SW.O.val (PySem.PyData.str (L2.cutS x_1 lo hi))) else Option.none := @SW.slcD.eq_3
@[simp] theorem E_slcD_4 : ∀ (d : SW.D) (lo hi : Option Int),
  (∀ (ds : List PySem.PyData), d = PySem.PyData.list ds → False) →
    (∀ (ds : List PySem.PyData), d = PySem.PyData.tuple ds → False) →
      (∀ (x : PySem.Str), d = PySem.PyData.str x → False) → SW.slcD d lo hi = Option.none := @SW.slcD.eq_4
@[simp] theorem E_lenD_1 : ∀ (ds : List PySem.PyData), SW.lenD (PySem.PyData.list ds) = Option.some ↑ds.length := @SW.lenD.eq_1
@[simp] theorem E_lenD_2 : ∀ (ds : List PySem.PyData), SW.lenD (PySem.PyData.tuple ds) = Option.some ↑ds.length := @SW.lenD.eq_2
@[simp] theorem E_lenD_3 : ∀ (x_1 : PySem.Str),
  SW.lenD (PySem.PyData.str x_1) = if x_1.length ≤ PySem.sizeLine then Option.some ↑x_1.length else Option.none := @SW.lenD.eq_3
@[simp] theorem E_lenD_4 : ∀ (kvs : List (PySem.PyData × PySem.PyData)), SW.lenD (PySem.PyData.dict kvs) = Option.some ↑kvs.length := @SW.lenD.eq_4
@[simp] theorem E_lenD_5 : ∀ (x : SW.D),
  (∀ (ds : List PySem.PyData), x = PySem.PyData.list ds → False) →
    (∀ (ds : List PySem.PyData), x = PySem.PyData.tuple ds → False) →
      (∀ (x_1 : PySem.Str), x = PySem.PyData.str x_1 → False) →
        (∀ (kvs : List (PySem.PyData × PySem.PyData)), x = PySem.PyData.dict kvs → False) → SW.lenD x = Option.none := @SW.lenD.eq_5
@[simp] theorem E_intO_1 : SW.intO Option.none = Option.some Option.none := @SW.intO.eq_1
@[simp] theorem E_intO_2 : ∀ (i : Int), SW.intO (Option.some (PySem.PyData.int i)) = Option.some (Option.some i) := @SW.intO.eq_2
@[simp] theorem E_intO_3 : ∀ (val : SW.D), (∀ (i : Int), val = PySem.PyData.int i → False) → SW.intO (Option.some val) = Option.none := @SW.intO.eq_3
@[simp] theorem E_idxD_1 : ∀ (ds : List PySem.PyData) (i : Int), SW.idxD (PySem.PyData.list ds) (PySem.PyData.int i) = SW.idxD.atI' ds i := @SW.idxD.eq_1
@[simp] theorem E_idxD_2 : ∀ (ds : List PySem.PyData) (i : Int), SW.idxD (PySem.PyData.tuple ds) (PySem.PyData.int i) = SW.idxD.atI' ds i := @SW.idxD.eq_2
@[simp] theorem E_idxD_3 : ∀ (x_2 : PySem.Str) (i : Int),
  SW.idxD (PySem.PyData.str x_2) (PySem.PyData.int i) =
    if x_2.length ≤ PySem.sizeLine then Option.map SW.chr1 (SW.idxD.atI' x_2.cps.toList i) else Option.none := @SW.idxD.eq_3
@[simp] theorem E_idxD_4 : ∀ (x : SW.D) (kvs : List (PySem.PyData × PySem.PyData)),
  SW.idxD (PySem.PyData.dict kvs) x = if SW.keyFits kvs x = Bool.true then SW.dget kvs x else Option.none := @SW.idxD.eq_4
@[simp] theorem E_idxD_5 : ∀ (x x_1 : SW.D),
  (∀ (kvs : List (PySem.PyData × PySem.PyData)), x = PySem.PyData.dict kvs → False) →
    (∀ (ds : List PySem.PyData) (i : Int), x = PySem.PyData.list ds → x_1 = PySem.PyData.int i → False) →
      (∀ (ds : List PySem.PyData) (i : Int), x = PySem.PyData.tuple ds → x_1 = PySem.PyData.int i → False) →
        (∀ (x_2 : PySem.Str) (i : Int), x = PySem.PyData.str x_2 → x_1 = PySem.PyData.int i → False) →
          SW.idxD x x_1 = Option.none := @SW.idxD.eq_5
@[simp] theorem E_cmpD_1 : ∀ (x x_1 : SW.D),
  SW.cmpD PySem.CmpOp.Eq x x_1 = if SW.eqOk x x_1 = Bool.true then Option.some (PySem.PyData.eqv x x_1) else SW.dEq x x_1 := @SW.cmpD.eq_1
@[simp] theorem E_cmpD_2 : ∀ (x x_1 : SW.D),
  SW.cmpD PySem.CmpOp.NotEq x x_1 =
    if SW.eqOk x x_1 = Bool.true then Option.some !PySem.PyData.eqv x x_1 else (SW.dEq x x_1).map (!·) := @SW.cmpD.eq_2
@[simp] theorem E_cmpD_3 : ∀ (x x_1 : SW.D), SW.cmpD PySem.CmpOp.Lt x x_1 = SW.cmpInt (fun i j => Decidable.decide (i < j)) x x_1 := @SW.cmpD.eq_3
@[simp] theorem E_cmpD_4 : ∀ (x x_1 : SW.D), SW.cmpD PySem.CmpOp.LtE x x_1 = SW.cmpInt (fun i j => Decidable.decide (i ≤ j)) x x_1 := @SW.cmpD.eq_4
@[simp] theorem E_cmpD_5 : ∀ (x x_1 : SW.D), SW.cmpD PySem.CmpOp.Gt x x_1 = SW.cmpInt (fun i j => Decidable.decide (j < i)) x x_1 := @SW.cmpD.eq_5
@[simp] theorem E_cmpD_6 : ∀ (x x_1 : SW.D), SW.cmpD PySem.CmpOp.GtE x x_1 = SW.cmpInt (fun i j => Decidable.decide (j ≤ i)) x x_1 := @SW.cmpD.eq_6
@[simp] theorem E_cmpD_7 : ∀ (x x_1 : SW.D), SW.cmpD PySem.CmpOp.Is x x_1 = SW.isD x x_1 := @SW.cmpD.eq_7
@[simp] theorem E_cmpD_8 : ∀ (x x_1 : SW.D), SW.cmpD PySem.CmpOp.IsNot x x_1 = Option.map (fun x => !x) (SW.isD x x_1) := @SW.cmpD.eq_8
@[simp] theorem E_cmpD_9 : ∀ (x x_1 : SW.D), SW.cmpD PySem.CmpOp.In x x_1 = SW.inD x x_1 := @SW.cmpD.eq_9
@[simp] theorem E_cmpD_10 : ∀ (x x_1 : SW.D), SW.cmpD PySem.CmpOp.NotIn x x_1 = Option.map (fun x => !x) (SW.inD x x_1) := @SW.cmpD.eq_10
@[simp] theorem E_inD_1 : ∀ (x : SW.D) (ds : List PySem.PyData),
  SW.inD x (PySem.PyData.list ds) =
    if SW.eqOk x (PySem.PyData.list ds) = Bool.true then Option.some (ds.any fun z => z.eqv x) else Option.none := @SW.inD.eq_1
@[simp] theorem E_inD_2 : ∀ (x : SW.D) (ds : List PySem.PyData),
  SW.inD x (PySem.PyData.tuple ds) =
    if SW.eqOk x (PySem.PyData.tuple ds) = Bool.true then Option.some (ds.any fun z => z.eqv x) else Option.none := @SW.inD.eq_2
@[simp] theorem E_inD_3 : ∀ (x : SW.D) (kvs : List (PySem.PyData × PySem.PyData)),
  SW.inD x (PySem.PyData.dict kvs) =
    if SW.keyFits kvs x = Bool.true then Option.some (SW.dget kvs x).isSome else Option.none := @SW.inD.eq_3
@[simp] theorem E_inD_4 : ∀ (y z : PySem.Str), SW.inD (PySem.PyData.str z) (PySem.PyData.str y) = Option.some (SW.strIn z y) := @SW.inD.eq_4
@[simp] theorem E_inD_5 : ∀ (x : SW.D) (y : PySem.Str),
  (∀ (z : PySem.Str), x = PySem.PyData.str z → False) → SW.inD x (PySem.PyData.str y) = Option.none := @SW.inD.eq_5
@[simp] theorem E_inD_6 : ∀ (x x_1 : SW.D),
  (∀ (ds : List PySem.PyData), x_1 = PySem.PyData.list ds → False) →
    (∀ (ds : List PySem.PyData), x_1 = PySem.PyData.tuple ds → False) →
      (∀ (kvs : List (PySem.PyData × PySem.PyData)), x_1 = PySem.PyData.dict kvs → False) →
        (∀ (y : PySem.Str), x_1 = PySem.PyData.str y → False) → SW.inD x x_1 = Option.none := @SW.inD.eq_6
@[simp] theorem E_isD_1 : ∀ (x : SW.D), SW.isD x PySem.PyData.none = Option.some (SW.isNone x) := @SW.isD.eq_1
@[simp] theorem E_isD_2 : ∀ (a b : Bool), SW.isD (PySem.PyData.bool a) (PySem.PyData.bool b) = Option.some (a == b) := @SW.isD.eq_2
@[simp] theorem E_isD_3 : ∀ (b : Bool), SW.isD PySem.PyData.none (PySem.PyData.bool b) = Option.some Bool.false := @SW.isD.eq_3
@[simp] theorem E_isD_4 : ∀ (x x_1 : SW.D),
  (x_1 = PySem.PyData.none → False) →
    (∀ (a b : Bool), x = PySem.PyData.bool a → x_1 = PySem.PyData.bool b → False) →
      (∀ (b : Bool), x = PySem.PyData.none → x_1 = PySem.PyData.bool b → False) → SW.isD x x_1 = Option.none := @SW.isD.eq_4
@[simp] theorem E_isNone_1 : SW.isNone PySem.PyData.none = Bool.true := @SW.isNone.eq_1
@[simp] theorem E_isNone_2 : ∀ (x : SW.D), (x = PySem.PyData.none → False) → SW.isNone x = Bool.false := @SW.isNone.eq_2
@[simp] theorem E_cmpInt_1 : ∀ (f : Int → Int → Bool) (i j : Int), SW.cmpInt f (PySem.PyData.int i) (PySem.PyData.int j) = Option.some (f i j) := @SW.cmpInt.eq_1
@[simp] theorem E_cmpInt_2 : ∀ (f : Int → Int → Bool) (x x_1 : SW.D),
  (∀ (i j : Int), x = PySem.PyData.int i → x_1 = PySem.PyData.int j → False) → SW.cmpInt f x x_1 = Option.none := @SW.cmpInt.eq_2
@[simp] theorem E_binD_1 : ∀ (i j : Int),
  SW.binD PySem.Operator.Add (PySem.PyData.int i) (PySem.PyData.int j) =
    Option.some (SW.O.val (PySem.PyData.int (i + j))) := @SW.binD.eq_1
@[simp] theorem E_binD_2 : ∀ (i j : Int),
  SW.binD PySem.Operator.Sub (PySem.PyData.int i) (PySem.PyData.int j) =
    Option.some (SW.O.val (PySem.PyData.int (i - j))) := @SW.binD.eq_2
@[simp] theorem E_binD_3 : ∀ (i j : Int),
  SW.binD PySem.Operator.Mult (PySem.PyData.int i) (PySem.PyData.int j) =
    if SW.mulOk i j = Bool.true then Option.some (SW.O.val (PySem.PyData.int (i * j))) else Option.none := @SW.binD.eq_3
@[simp] theorem E_binD_4 : ∀ (i j : Int),
  SW.binD PySem.Operator.FloorDiv (PySem.PyData.int i) (PySem.PyData.int j) =
    if 0 < j ∧ j < 1073741824 then Option.some (SW.O.val (PySem.PyData.int (i / j))) else Option.none := @SW.binD.eq_4
@[simp] theorem E_binD_5 : ∀ (i j : Int),
  SW.binD PySem.Operator.Mod (PySem.PyData.int i) (PySem.PyData.int j) =
    if 0 < j then Option.some (SW.O.val (PySem.PyData.int (i % j))) else Option.none := @SW.binD.eq_5
@[simp] theorem E_binD_6 : ∀ (i j : Int),
  SW.binD PySem.Operator.Pow (PySem.PyData.int i) (PySem.PyData.int j) =
    if 0 ≤ j ∧ j ≤ 1000000 ∧ i.natAbs < 2 ^ 64 then Option.some (SW.O.val (PySem.PyData.int (i ^ j.toNat)))
    else Option.none := @SW.binD.eq_6
@[simp] theorem E_binD_7 : ∀ (x_3 y : PySem.Str),
  SW.binD PySem.Operator.Add (PySem.PyData.str x_3) (PySem.PyData.str y) =
    if SW.catOk x_3.length y.length = Bool.true then Option.some (SW.O.val (PySem.PyData.str (x_3 ++ y)))
    else Option.none := @SW.binD.eq_7
@[simp] theorem E_binD_8 : ∀ (xs ys : List PySem.PyData),
  SW.binD PySem.Operator.Add (PySem.PyData.list xs) (PySem.PyData.list ys) =
    if SW.catOk xs.length ys.length = Bool.true then Option.some (SW.O.lst (xs ++ ys)) else Option.none := @SW.binD.eq_8
@[simp] theorem E_binD_9 : ∀ (xs ys : List PySem.PyData),
  SW.binD PySem.Operator.Add (PySem.PyData.tuple xs) (PySem.PyData.tuple ys) =
    if SW.catOk xs.length ys.length = Bool.true then Option.some (SW.O.val (PySem.PyData.tuple (xs ++ ys)))
    else Option.none := @SW.binD.eq_9
@[simp] theorem E_binD_10 : ∀ (x_3 : PySem.Str) (n : Int),
  SW.binD PySem.Operator.Mult (PySem.PyData.str x_3) (PySem.PyData.int n) =
    if 0 ≤ n ∧ n ≤ 16777216 ∧ x_3.length * n.toNat ≤ PySem.sizeLine then
      Option.some (SW.O.val (PySem.PyData.str (PySem.Txt.mul x_3 n)))
    else Option.none := @SW.binD.eq_10
@[simp] theorem E_binD_11 : ∀ (x : PySem.Operator) (x_1 x_2 : SW.D),
  (∀ (i j : Int), x = PySem.Operator.Add → x_1 = PySem.PyData.int i → x_2 = PySem.PyData.int j → False) →
    (∀ (i j : Int), x = PySem.Operator.Sub → x_1 = PySem.PyData.int i → x_2 = PySem.PyData.int j → False) →
      (∀ (i j : Int), x = PySem.Operator.Mult → x_1 = PySem.PyData.int i → x_2 = PySem.PyData.int j → False) →
        (∀ (i j : Int), x = PySem.Operator.FloorDiv → x_1 = PySem.PyData.int i → x_2 = PySem.PyData.int j → False) →
          (∀ (i j : Int), x = PySem.Operator.Mod → x_1 = PySem.PyData.int i → x_2 = PySem.PyData.int j → False) →
            (∀ (i j : Int), x = PySem.Operator.Pow → x_1 = PySem.PyData.int i → x_2 = PySem.PyData.int j → False) →
              (∀ (x_3 y : PySem.Str),
                  x = PySem.Operator.Add → x_1 = PySem.PyData.str x_3 → x_2 = PySem.PyData.str y → False) →
                (∀ (xs ys : List PySem.PyData),
                    x = PySem.Operator.Add → x_1 = PySem.PyData.list xs → x_2 = PySem.PyData.list ys → False) →
                  (∀ (xs ys : List PySem.PyData),
                      x = PySem.Operator.Add → x_1 = PySem.PyData.tuple xs → x_2 = PySem.PyData.tuple ys → False) →
                    (∀ (x_3 : PySem.Str) (n : Int),
                        x = PySem.Operator.Mult → x_1 = PySem.PyData.str x_3 → x_2 = PySem.PyData.int n → False) →
                      SW.binD x x_1 x_2 = Option.none := @SW.binD.eq_11
@[simp] theorem E_items_1 : ∀ (ds : List PySem.PyData), SW.items (PySem.PyData.list ds) = Option.some ds := @SW.items.eq_1
@[simp] theorem E_items_2 : ∀ (ds : List PySem.PyData), SW.items (PySem.PyData.tuple ds) = Option.some ds := @SW.items.eq_2
@[simp] theorem E_items_3 : ∀ (x_1 : PySem.Str), SW.items (PySem.PyData.str x_1) = Option.some (List.map SW.chr1 x_1.cps.toList) := @SW.items.eq_3
@[simp] theorem E_items_4 : ∀ (kvs : List (SW.D × SW.D)), SW.items (PySem.PyData.dict kvs) = if (kvs.all fun p => SW.isKey1 p.1) = Bool.true then Option.some (kvs.map (·.1)) else Option.none := @SW.items.eq_4
@[simp] theorem items_none' : SW.items PySem.PyData.none = Option.none := rfl
@[simp] theorem items_bool' {b : Bool} : SW.items (PySem.PyData.bool b) = Option.none := rfl
@[simp] theorem items_int' {b : Int} : SW.items (PySem.PyData.int b) = Option.none := rfl
@[simp] theorem E_isKey_1 : ∀ (i : Int), SW.isKey (PySem.PyData.int i) = Bool.true := @SW.isKey.eq_1
@[simp] theorem E_isKey_2 : ∀ (s : PySem.Str), SW.isKey (PySem.PyData.str s) = Bool.true := @SW.isKey.eq_2
@[simp] theorem E_isKey_3 : ∀ (ds : List PySem.PyData), SW.isKey (PySem.PyData.tuple ds) = ds.all SW.isKey1 := @SW.isKey.eq_3
@[simp] theorem E_isKey_4 : ∀ (x : SW.D),
  (∀ (i : Int), x = PySem.PyData.int i → False) →
    (∀ (s : PySem.Str), x = PySem.PyData.str s → False) →
      (∀ (ds : List PySem.PyData), x = PySem.PyData.tuple ds → False) → SW.isKey x = Bool.false := @SW.isKey.eq_4
@[simp] theorem E_isKey1_1 : ∀ (i : Int), SW.isKey1 (PySem.PyData.int i) = Bool.true := @SW.isKey1.eq_1
@[simp] theorem E_isKey1_2 : ∀ (s : PySem.Str), SW.isKey1 (PySem.PyData.str s) = Bool.true := @SW.isKey1.eq_2
@[simp] theorem E_isKey1_3 : ∀ (x : SW.D),
  (∀ (i : Int), x = PySem.PyData.int i → False) →
    (∀ (s : PySem.Str), x = PySem.PyData.str s → False) → SW.isKey1 x = Bool.false := @SW.isKey1.eq_3
@[simp] theorem E_sameKind_1 : ∀ (xs xs_1 : List PySem.PyData), SW.sameKind (PySem.PyData.tuple xs) (PySem.PyData.tuple xs_1) = Bool.true := @SW.sameKind.eq_1
@[simp] theorem E_sameKind_2 : ∀ (x : SW.D) (xs : List PySem.PyData),
  (∀ (xs : List PySem.PyData), x = PySem.PyData.tuple xs → False) → SW.sameKind (PySem.PyData.tuple xs) x = Bool.false := @SW.sameKind.eq_2
@[simp] theorem E_sameKind_3 : ∀ (x : SW.D) (xs : List PySem.PyData),
  (∀ (xs : List PySem.PyData), x = PySem.PyData.tuple xs → False) → SW.sameKind x (PySem.PyData.tuple xs) = Bool.false := @SW.sameKind.eq_3
@[simp] theorem E_sameKind_4 : ∀ (x x_1 : SW.D),
  (∀ (xs : List PySem.PyData), x = PySem.PyData.tuple xs → False) →
    (∀ (xs : List PySem.PyData), x_1 = PySem.PyData.tuple xs → False) →
      (∀ (xs xs_1 : List PySem.PyData), x = PySem.PyData.tuple xs → x_1 = PySem.PyData.tuple xs_1 → False) →
        SW.sameKind x x_1 = Bool.true := @SW.sameKind.eq_4
@[simp] theorem E_rngD_1 : ∀ (j : Int), SW.rngD [PySem.PyData.int j] = if SW.smallI j = Bool.true then Option.some (SW.rngL 0 j) else Option.none := @SW.rngD.eq_1
@[simp] theorem E_rngD_2 : ∀ (i j : Int),
  SW.rngD [PySem.PyData.int i, PySem.PyData.int j] =
    if SW.smallI i = Bool.true ∧ SW.smallI j = Bool.true then Option.some (SW.rngL i j) else Option.none := @SW.rngD.eq_2
@[simp] theorem E_rngD_3 : ∀ (x : List SW.D),
  (∀ (j : Int), x = [PySem.PyData.int j] → False) →
    (∀ (i j : Int), x = [PySem.PyData.int i, PySem.PyData.int j] → False) → SW.rngD x = Option.none := @SW.rngD.eq_3
@[simp] theorem E_kVals1_1 : ∀ (es : SW.Rho → SW.R (List SW.D)) (d : SW.D) (ρ : SW.Rho), SW.kVals1 es d ρ = SW.kVals2 d (es ρ) := @SW.kVals1.eq_1
@[simp] theorem E_fBin_1 : ∀ (op : PySem.Operator) (d e : SW.D) (ρ : SW.Rho), SW.fBin op d e ρ = SW.rO (SW.binD op d e) ρ := @SW.fBin.eq_1
@[simp] theorem E_fCmp_1 : ∀ (op : PySem.CmpOp) (d e : SW.D) (ρ : SW.Rho), SW.fCmp op d e ρ = SW.rB (SW.cmpD op d e) ρ := @SW.fCmp.eq_1
@[simp] theorem E_fIdx_1 : ∀ (d e : SW.D) (ρ : SW.Rho), SW.fIdx d e ρ = SW.rD (SW.idxD d e) ρ := @SW.fIdx.eq_1
@[simp] theorem E_fBlt_1 : ∀ (b : SW.Blt) (d : SW.D) (ρ : SW.Rho), SW.fBlt b d ρ = SW.rO (SW.bltD b d) ρ := @SW.fBlt.eq_1
@[simp] theorem E_fIsi_1 : ∀ (ts : List String) (d : SW.D) (ρ : SW.Rho),
  SW.fIsi ts d ρ = SW.R.ok (SW.A.vl (SW.O.val (PySem.PyData.bool (SW.isiAny d ts)))) ρ := @SW.fIsi.eq_1
@[simp] theorem E_cBool_1 : ∀ (b : Bool) (ρ : SW.Rho), SW.cBool b ρ = SW.R.ok (SW.A.vl (SW.O.val (PySem.PyData.bool b))) ρ := @SW.cBool.eq_1
@[simp] theorem E_rFrz_1 : ∀ (d : SW.D) (ρ : SW.Rho), SW.rFrz d ρ = SW.R.ok d ρ := @SW.rFrz.eq_1
@[simp] theorem E_elt1_1 : ∀ (ee : SW.Rho → SW.R SW.A) (ρ : SW.Rho), SW.elt1 ee ρ = SW.kSome (SW.kFrz SW.rFrz (ee ρ)) := @SW.elt1.eq_1
@[simp] theorem E_none1_1 : ∀ (ρ : SW.Rho), SW.none1 ρ = SW.R.ok Option.none ρ := @SW.none1.eq_1
theorem E_lcTurn_1 : ∀ (t : SW.MT) (cond : SW.Rho → SW.R (Option SW.D)) (d : SW.D) (ρ : SW.Rho),
  SW.lcTurn t cond d ρ =
    match SW.bindT t (SW.O.val d) ρ with
    | Option.some ρ1 =>
      match cond ρ1 with
      | SW.R.ok x ρ2 => SW.R.ok x (SW.wipeR ρ2 t.slots)
      | SW.R.exc e ρ2 => SW.R.exc e ρ2
      | SW.R.bad => SW.R.bad
    | Option.none => SW.R.bad := @SW.lcTurn.eq_1
theorem E_lcAll_1 : ∀ (t : SW.MT) (cond : SW.Rho → SW.R (Option SW.D)) (ds : List SW.D) (ρ : SW.Rho),
  SW.lcAll t cond ds ρ =
    if SW.ownFree ρ t.slots = Bool.true then
      match SW.lcL (SW.lcTurn t cond) ds [] (SW.wipeR ρ t.slots) with
      | SW.R.ok acc ρ' => SW.R.ok (SW.A.vl (SW.O.lst acc)) (SW.backR ρ ρ' t.slots)
      | SW.R.exc e ρ' => SW.R.exc e (SW.backR ρ ρ' t.slots)
      | SW.R.bad => SW.R.bad
    else SW.R.bad := @SW.lcAll.eq_1
@[simp] theorem E_fItems_1 : ∀ (f : List SW.D → SW.Rho → SW.R SW.A) (d : SW.D) (ρ : SW.Rho),
  SW.fItems f d ρ =
    match SW.items d with
    | Option.some ds => f ds ρ
    | Option.none => SW.R.bad := @SW.fItems.eq_1
@[simp] theorem E_kSub1_1 : ∀ (i : Nat) (ek : SW.Rho → SW.R SW.A) (v : SW.D) (ρ : SW.Rho),
  SW.kSub1 i ek v ρ =
    match SW.slot ρ i with
    | Option.some val => SW.kFrzS (fun k ρ' => SW.subS i k v ρ') (ek ρ)
    | Option.none => SW.S.bad := @SW.kSub1.eq_1
@[simp] theorem E_subS_1 : ∀ (i : Nat) (k v : SW.D) (ρ : SW.Rho),
  SW.subS i k v ρ =
    match SW.slot ρ i with
    | Option.some o =>
      match SW.subO o k v with
      | Option.some o' => SW.S.nx (List.set ρ i (Option.some o'))
      | Option.none => SW.S.bad
    | Option.none => SW.S.bad := @SW.subS.eq_1
@[simp] theorem E_kAug0_1 : ∀ (i : Nat) (op : PySem.Operator) (e : SW.Rho → SW.R SW.A) (ρ : SW.Rho),
  SW.kAug0 i op e ρ =
    match SW.slot ρ i with
    | Option.some (SW.O.val d) => SW.kAug i op (SW.O.val d) (e ρ)
    | x => SW.S.bad := @SW.kAug0.eq_1
@[simp] theorem E_kMut0_1 : ∀ (i : Nat) (f : SW.Rho → SW.R SW.A) (ρ : SW.Rho),
  SW.kMut0 i f ρ =
    match SW.slot ρ i with
    | Option.some (SW.O.lst ds) => f ρ
    | x => SW.R.bad := @SW.kMut0.eq_1
@[simp] theorem E_forI_1 : ∀ (c : SW.Ctx) (r : Bool) (f : List SW.D → SW.Rho → SW.S) (ρ : SW.Rho) (e : SW.ME) (tail : List SW.ME),
  SW.forI c r (e :: tail) f ρ = if r = Bool.true then SW.kForR f (SW.evVs c (e :: tail) ρ) else SW.kFor f (SW.evE c e ρ) := @SW.forI.eq_1
@[simp] theorem E_forI_2 : ∀ (c : SW.Ctx) (r : Bool) (f : List SW.D → SW.Rho → SW.S) (ρ : SW.Rho),
  SW.forI c r [] f ρ = if r = Bool.true then SW.kForR f (SW.evVs c [] ρ) else SW.S.bad := @SW.forI.eq_2
@[simp] theorem E_enter_1 : ∀ (f : SW.Fn) (os : List SW.O), SW.enter f os = List.map Option.some os ++ List.replicate (f.n - os.length) Option.none := @SW.enter.eq_1
@[simp] theorem E_runFn_1 : ∀ (c : SW.Ctx) (f : SW.Fn) (os : List SW.O),
  SW.runFn c f os =
    if SW.okArgs f.rb os = Bool.true then SW.kEnd f os (SW.evSs c f.np f.body (SW.enter f os)) else SW.C.bad := @SW.runFn.eq_1
@[simp] theorem E_withDfl_1 : ∀ (f : SW.Fn) (os : List SW.O),
  SW.withDfl f os = os ++ List.map SW.O.val (List.drop (os.length + f.dfl.length - f.np) f.dfl) := @SW.withDfl.eq_1
@[simp] theorem E_isi1_1 : ∀ (d : SW.D) (t : String), SW.isi1 d t = (SW.tyName d == t || SW.tyName d == "bool" && t == "int") := @SW.isi1.eq_1
@[simp] theorem E_isiAny_1 : ∀ (d : SW.D) (ts : List String), SW.isiAny d ts = ts.any (SW.isi1 d) := @SW.isiAny.eq_1
@[simp] theorem E_keyFits_1 : ∀ (kvs : List (SW.D × SW.D)) (k : SW.D), SW.keyFits kvs k = (SW.isKey k && kvs.all fun p => SW.sameKind p.fst k) := @SW.keyFits.eq_1
@[simp] theorem E_dget_1 : ∀ (kvs : List (SW.D × SW.D)) (k : SW.D),
  SW.dget kvs k = Option.map (fun x => x.snd) (List.find? (fun p => PySem.PyData.eqv p.fst k) kvs) := @SW.dget.eq_1
@[simp] theorem E_ownFree_1 : ∀ (ρ : SW.Rho) (is : List Nat),
  SW.ownFree ρ is =
    is.all fun i =>
      Decidable.decide (i < List.length ρ) &&
        match SW.slot ρ i with
        | Option.none => Bool.true
        | Option.some (SW.O.val d) => Bool.true
        | x => Bool.false := @SW.ownFree.eq_1
@[simp] theorem E_chr1_1 : ∀ (c : Nat), SW.chr1 c = PySem.PyData.str { cps := #[c] } := @SW.chr1.eq_1
/-! ### slots -/
section
variable {r0 r1 r2 r3 r4 r5 r6 r7 r8 r9 ra rb rc rd re rf : Option O} {ρ : Rho}
@[simp] theorem sl0 : slot (r0 :: ρ) 0 = r0 := rfl
@[simp] theorem sl1 : slot (r0 :: r1 :: ρ) 1 = r1 := rfl
@[simp] theorem sl2 : slot (r0 :: r1 :: r2 :: ρ) 2 = r2 := rfl
@[simp] theorem sl3 : slot (r0 :: r1 :: r2 :: r3 :: ρ) 3 = r3 := rfl
@[simp] theorem sl4 : slot (r0 :: r1 :: r2 :: r3 :: r4 :: ρ) 4 = r4 := rfl
@[simp] theorem sl5 : slot (r0 :: r1 :: r2 :: r3 :: r4 :: r5 :: ρ) 5 = r5 := rfl
@[simp] theorem sl6 : slot (r0 :: r1 :: r2 :: r3 :: r4 :: r5 :: r6 :: ρ) 6 = r6 := rfl
@[simp] theorem sl7 : slot (r0 :: r1 :: r2 :: r3 :: r4 :: r5 :: r6 :: r7 :: ρ) 7 = r7 := rfl
@[simp] theorem sl8 : slot (r0 :: r1 :: r2 :: r3 :: r4 :: r5 :: r6 :: r7 :: r8 :: ρ) 8 = r8 := rfl
@[simp] theorem sl9 : slot (r0 :: r1 :: r2 :: r3 :: r4 :: r5 :: r6 :: r7 :: r8 :: r9 :: ρ) 9 = r9 := rfl
@[simp] theorem sl10 : slot (r0 :: r1 :: r2 :: r3 :: r4 :: r5 :: r6 :: r7 :: r8 :: r9 :: ra :: ρ) 10 = ra := rfl
@[simp] theorem sl11 : slot (r0 :: r1 :: r2 :: r3 :: r4 :: r5 :: r6 :: r7 :: r8 :: r9 :: ra :: rb :: ρ) 11 = rb := rfl
@[simp] theorem sl12 : slot (r0 :: r1 :: r2 :: r3 :: r4 :: r5 :: r6 :: r7 :: r8 :: r9 :: ra :: rb :: rc :: ρ) 12 = rc := rfl
@[simp] theorem sl13 : slot (r0 :: r1 :: r2 :: r3 :: r4 :: r5 :: r6 :: r7 :: r8 :: r9 :: ra :: rb :: rc :: rd :: ρ) 13 = rd := rfl
@[simp] theorem sl14 : slot (r0 :: r1 :: r2 :: r3 :: r4 :: r5 :: r6 :: r7 :: r8 :: r9 :: ra :: rb :: rc :: rd :: re :: ρ) 14 = re := rfl
end
section
variable {α : Type} {a b c d e f g : α} {xs : List α}
theorem atI_nat' (xs : List α) (j : Nat) (h : j < xs.length) : atI xs (j : Int) = xs[j]? := by
  rw [List.getElem?_eq_getElem h]
  exact L2.atI_nat (List.getElem?_eq_getElem h)
@[simp] theorem at0 : atI (a :: xs) 0 = some a := L2.atI_nat (j := 0) rfl
@[simp] theorem at1 : atI (a :: b :: xs) 1 = some b := L2.atI_nat (j := 1) rfl
@[simp] theorem at2 : atI (a :: b :: c :: xs) 2 = some c := L2.atI_nat (j := 2) rfl
@[simp] theorem at3 : atI (a :: b :: c :: d :: xs) 3 = some d := L2.atI_nat (j := 3) rfl
@[simp] theorem at4 : atI (a :: b :: c :: d :: e :: xs) 4 = some e := L2.atI_nat (j := 4) rfl
@[simp] theorem at5 : atI (a :: b :: c :: d :: e :: f :: xs) 5 = some f := L2.atI_nat (j := 5) rfl
@[simp] theorem at_m1 : atI [a] (-1) = some a := L2.atI_last [] a
@[simp] theorem at_m2 : atI [a, b] (-1) = some b := L2.atI_last [a] b
@[simp] theorem atI'_eq {i : Int} : idxD.atI' xs i = atI xs i := rfl
@[simp] theorem ix0 {n : Nat} : ixN (n + 1) 0 = some 0 := by unfold ixN; rw [if_pos (by omega), if_pos (by omega)]; rfl
@[simp] theorem ix1 {n : Nat} : ixN (n + 2) 1 = some 1 := by unfold ixN; rw [if_pos (by omega), if_pos (by omega)]; rfl
@[simp] theorem ix2 {n : Nat} : ixN (n + 3) 2 = some 2 := by unfold ixN; rw [if_pos (by omega), if_pos (by omega)]; rfl
@[simp] theorem ix3 {n : Nat} : ixN (n + 4) 3 = some 3 := by unfold ixN; rw [if_pos (by omega), if_pos (by omega)]; rfl
theorem ix_nat {n j : Nat} (h : j < n) : ixN n (j : Int) = some j := by unfold ixN; rw [if_pos (by omega), if_pos (by omega)]; simp
@[simp] theorem ixa : ixN 1 0 = some 0 := rfl
@[simp] theorem ixb : ixN 2 0 = some 0 := rfl
@[simp] theorem ixc : ixN 2 1 = some 1 := rfl
@[simp] theorem ixd : ixN 3 0 = some 0 := rfl
@[simp] theorem ixe : ixN 3 1 = some 1 := rfl
@[simp] theorem ixf : ixN 3 2 = some 2 := rfl
@[simp] theorem ixg : ixN 4 0 = some 0 := rfl
@[simp] theorem ixh : ixN 4 1 = some 1 := rfl
@[simp] theorem ixi : ixN 4 2 = some 2 := rfl
@[simp] theorem ixj : ixN 4 3 = some 3 := rfl
end
/-! ### slices from the second item on -/
theorem cut_tail {α : Type} (x : α) (r : List α) : cutL (x :: r) (some 1) none = r := by
  unfold cutL
  have e1 : HT.sIx (x :: r).length 0 (some 1) = 1 := by
    simp [HT.sIx]
  have e2 : HT.sIx (x :: r).length (x :: r).length none = (x :: r).length := by
    simp [HT.sIx]
  rw [e1, e2]
  simp
@[simp] theorem slc_tail_t (x : D) (r : List D) : slcD (.tuple (x :: r)) (some 1) none = some (.val (.tuple r)) := by
  simp only [slcD]
  rw [cut_tail]
theorem slc_tail_l (x : D) (r : List D) : slcD (.list (x :: r)) (some 1) none = some (.lst r) := by
  simp only [slcD]
  rw [cut_tail]
/-! ### branches -/
section
variable {α β : Type} {b : Bool}
@[simp] theorem kSeq_cond {f : Rho → S} {x y : S} : kSeq f (bif b then x else y) = bif b then kSeq f x else kSeq f y := by cases b <;> rfl
@[simp] theorem kRetS_cond {np : Nat} {x y : R A} : kRetS np (bif b then x else y) = bif b then kRetS np x else kRetS np y := by cases b <;> rfl
@[simp] theorem kTstS_cond {f g : Rho → S} {x y : R A} : kTstS f g (bif b then x else y) = bif b then kTstS f g x else kTstS f g y := by cases b <;> rfl
@[simp] theorem kTst_cond {f g : Rho → R α} {x y : R A} : kTst f g (bif b then x else y) = bif b then kTst f g x else kTst f g y := by cases b <;> rfl
@[simp] theorem kLook_cond {f : D → Rho → R α} {x y : R A} : kLook f (bif b then x else y) = bif b then kLook f x else kLook f y := by cases b <;> rfl
@[simp] theorem kFrz_cond {f : D → Rho → R α} {x y : R A} : kFrz f (bif b then x else y) = bif b then kFrz f x else kFrz f y := by cases b <;> rfl
@[simp] theorem kFrzS_cond {f : D → Rho → S} {x y : R A} : kFrzS f (bif b then x else y) = bif b then kFrzS f x else kFrzS f y := by cases b <;> rfl
@[simp] theorem kBind_cond {t : MT} {x y : R A} : kBind t (bif b then x else y) = bif b then kBind t x else kBind t y := by cases b <;> rfl
@[simp] theorem kEnd_cond {f : Fn} {os : List O} {x y : S} : kEnd f os (bif b then x else y) = bif b then kEnd f os x else kEnd f os y := by cases b <;> rfl
@[simp] theorem kBin2_cond {f : D → D → Rho → R A} {a : A} {x y : R A} : kBin2 f a (bif b then x else y) = bif b then kBin2 f a x else kBin2 f a y := by cases b <;> rfl
@[simp] theorem kBin1_cond {f : D → D → Rho → R A} {g : Rho → R A} {x y : R A} : kBin1 f g (bif b then x else y) = bif b then kBin1 f g x else kBin1 f g y := by cases b <;> rfl
end
@[simp] theorem kSome_cond {b : Bool} {x y : R D} : kSome (bif b then x else y) = bif b then kSome x else kSome y := by cases b <;> rfl
@[simp] theorem lc_cond {b : Bool} {x y : R (Option D)} {f : Rho → Rho} : (match (bif b then x else y) with
    | R.ok z ρ2 => R.ok z (f ρ2)
    | R.exc e ρ2 => R.exc e ρ2
    | R.bad => R.bad) = bif b then (match x with
    | R.ok z ρ2 => R.ok z (f ρ2)
    | R.exc e ρ2 => R.exc e ρ2
    | R.bad => R.bad) else (match y with
    | R.ok z ρ2 => R.ok z (f ρ2)
    | R.exc e ρ2 => R.exc e ρ2
    | R.bad => R.bad) := by cases b <;> rfl
/-! ### comprehensions -/
theorem lcL_map {α : Type} {f : D → Rho → R (Option D)} {e : α → D} {g : α → Option D} {ρ : Rho} : ∀ {l : List α} {acc : List D}, (∀ a ∈ l, f (e a) ρ = .ok (g a) ρ) → acc.length + l.length ≤ sizeLine → lcL f (l.map e) acc ρ = .ok (acc ++ l.filterMap g) ρ
  | [], acc, _, _ => by simp [lcL]
  | a :: l, acc, h, hl => by
    rw [List.length_cons] at hl
    have h1 := h a (by simp)
    have h2 : ∀ b ∈ l, f (e b) ρ = .ok (g b) ρ := fun b hb => h b (by simp [hb])
    rw [List.map_cons]
    simp only [lcL, h1]
    cases hg : g a with
    | none =>
      simp only
      rw [lcL_map h2 (by omega), List.filterMap_cons_none hg]
    | some x =>
      simp only
      rw [if_pos (by omega), lcL_map h2 (by rw [List.length_append, List.length_singleton]; omega), List.filterMap_cons_some hg]
      simp
/-- a comprehension that leaves the names as they are -/
theorem lc_map {α : Type} {t : MT} {cond : Rho → R (Option D)} {e : α → D} {g : α → Option D} {ρ : Rho} {l : List α} {ds : List D} (hds : ds = l.map e) (hf : ownFree ρ t.slots = true) (hb : backR ρ (wipeR ρ t.slots) t.slots = ρ) (hl : l.length ≤ sizeLine)
    (h : ∀ a ∈ l, lcTurn t cond (e a) (wipeR ρ t.slots) = .ok (g a) (wipeR ρ t.slots)) : lcAll t cond ds ρ = .ok (.vl (.lst (l.filterMap g))) ρ := by
  subst hds
  unfold lcAll
  rw [if_pos hf, lcL_map h (by simpa using hl)]
  simp [hb]
theorem boolsOf_map {α : Type} (g : α → Bool) : ∀ l : List α, boolsOf (l.map fun a => PyData.bool (g a)) = some (l.map g)
  | [] => rfl
  | a :: l => by simp [boolsOf, boolsOf_map g l]
theorem strsOf_map {α : Type} (g : α → Str) : ∀ l : List α, strsOf (l.map fun a => PyData.str (g a)) = some (l.map g)
  | [] => rfl
  | a :: l => by simp [strsOf, strsOf_map g l]
/-! ### equality -/
@[simp] theorem shaped_none : SeqAt.shaped .none = true := rfl
@[simp] theorem shaped_bool {b : Bool} : SeqAt.shaped (.bool b) = true := rfl
@[simp] theorem shaped_int {i : Int} : SeqAt.shaped (.int i) = true := rfl
@[simp] theorem shaped_str {x : Str} : SeqAt.shaped (.str x) = PyData.strOk x := by simp [SeqAt.shaped, PyData.canLay0, PyData.depth]
@[simp] theorem eqOk_eq {d e : D} : eqOk d e = (SeqAt.shaped d && SeqAt.shaped e) := rfl
@[simp] theorem strIn_one {c : Nat} {y : Str} : strIn ⟨#[c]⟩ y = decide (c ∈ y.cps.toList) := StrLaws.found_one y c
def eqS (d : D) (s : Str) : Bool := match d with
  | .str t => t == s
  | _ => false
@[simp] theorem eqv_s {d : D} {s : Str} : PyData.eqv d (.str s) = eqS d s := by cases d <;> rfl
@[simp] theorem eqv_s' {d : D} {s : Str} : PyData.eqv (.str s) d = eqS d s := by
  cases d <;> first | rfl | exact Bool.beq_comm
@[simp] theorem eqS_str {t s : Str} : eqS (.str t) s = (t == s) := rfl
@[simp] theorem eqS_none {s : Str} : eqS .none s = false := rfl
@[simp] theorem eqS_int {i : Int} {s : Str} : eqS (.int i) s = false := rfl
@[simp] theorem eqS_bool {i : Bool} {s : Str} : eqS (.bool i) s = false := rfl
@[simp] theorem eqS_list {l : List D} {s : Str} : eqS (.list l) s = false := rfl
@[simp] theorem eqS_tuple {l : List D} {s : Str} : eqS (.tuple l) s = false := rfl
@[simp] theorem eqv_int {i j : Int} : PyData.eqv (.int i) (.int j) = (i == j) := rfl
/-! ### dicts displayed, dict comprehensions -/
@[simp] theorem E_kTwo_1 (fb : Rho → R A) (x : A) (ρ : Rho) : kTwo fb (.ok x ρ) = kFrz (kVals1 fun ρ1 => kFrz (kVals1 fun ρ2 => .ok [] ρ2) (fb ρ1)) (.ok x ρ) := rfl
@[simp] theorem E_kDct1_1 (k d : D) (ρ : Rho) : kDct1 (.ok [k, d] ρ) = if isKey1 k = true then .ok (.vl (.dct [(k, d)])) ρ else .bad := rfl
@[simp] theorem isKey1_str (x : Str) : isKey1 (.str x) = true := rfl
@[simp] theorem isKey1_int (x : Int) : isKey1 (.int x) = true := rfl
theorem dcL_map {α : Type} {f : D → Rho → R (Option D)} {e : α → D} {g : α → Option (D × D)} {ρ : Rho} : ∀ {l : List α} {acc : List (D × D)}, (∀ a ∈ l, f (e a) ρ = .ok ((g a).map fun p => .tuple [p.1, p.2]) ρ) → (∀ a ∈ l, ∀ p, g a = some p → isKey1 p.1 = true) → acc.length + l.length ≤ sizeLine → dcL f (l.map e) acc ρ = .ok ((l.filterMap g).foldl (fun acc p => dput acc p.1 p.2) acc) ρ
  | [], acc, _, _, _ => by simp [dcL]
  | a :: l, acc, h, hk, hl => by
    rw [List.length_cons] at hl
    have h1 := h a (by simp)
    have h2 : ∀ b ∈ l, f (e b) ρ = .ok ((g b).map fun p => .tuple [p.1, p.2]) ρ := fun b hb => h b (by simp [hb])
    have k2 : ∀ b ∈ l, ∀ p, g b = some p → isKey1 p.1 = true := fun b hb => hk b (by simp [hb])
    rw [List.map_cons]
    simp only [dcL, h1]
    cases hg : g a with
    | none =>
      simp only [Option.map_none]
      rw [dcL_map h2 k2 (by omega), List.filterMap_cons_none hg]
    | some p =>
      simp only [Option.map_some]
      have hp : (dput acc p.1 p.2).length ≤ acc.length + 1 := by
        unfold dput
        split
        · simp
        · simp
      rw [if_pos ⟨hk a (by simp) p hg, by omega⟩, dcL_map h2 k2 (by omega), List.filterMap_cons_some hg]
      rfl
/-- a dict comprehension that leaves the names as they are -/
theorem dc_map {α : Type} {t : MT} {cond : Rho → R (Option D)} {e : α → D} {g : α → Option (D × D)} {ρ : Rho} {l : List α} {ds : List D} (hds : ds = l.map e) (hf : ownFree ρ t.slots = true) (hb : backR ρ (wipeR ρ t.slots) t.slots = ρ) (hl : l.length ≤ sizeLine)
    (h : ∀ a ∈ l, lcTurn t cond (e a) (wipeR ρ t.slots) = .ok ((g a).map fun p => .tuple [p.1, p.2]) (wipeR ρ t.slots)) (hk : ∀ a ∈ l, ∀ p, g a = some p → isKey1 p.1 = true) : dcAll t cond ds ρ = .ok (.vl (.dct ((l.filterMap g).foldl (fun acc p => dput acc p.1 p.2) []))) ρ := by
  subst hds
  unfold dcAll
  rw [if_pos hf, dcL_map h hk (by simpa using hl)]
  simp [hb]
end SW

set_option Elab.async false
set_option linter.all false
set_option maxRecDepth 100000
set_option maxHeartbeats 0
namespace K44
open PySem PySem.Spec L2 SW
open PyProof.Rows hiding St
abbrev RR : PySem.W.OpenRow := PySem.W.OpenLaw.row PySem.Challenge.rw_sealwright_k44_orders_of_units
def at_ (i : Nat) : Stmt := PySem.Challenge.pw_sealwright_k44_orders_of_units.main.body.getD i (.Pass ⟨0, 0, 0, 0⟩)
def lc_paths_in_1 : ME := .lc (.name 3) false [(.call "paths_in" [(.var 2)])] (some (.cmp .NotIn (.var 3) (.var 1))) (.var 3)
def fo_paths_in_2 : MS := .forS (.name 2) false [(.slc (.var 0) (some (.lit (.int 1))) none)] [.asg (.name 1) (.bin .Add (.var 1) lc_paths_in_1)]
def f_paths_in : Fn := ⟨1, 4, [false], [], [.ifS (.isi (.var 0) ["str"] false) [.ret (.lstE [])] [],
  .ifS (.cmp .Eq (.idx (.var 0) (.lit (.int 0))) (.lit (.str "path"))) [.ret (.lstE [(.idx (.var 0) (.lit (.int 1)))])] [],
  .asg (.name 1) (.lstE []),
  fo_paths_in_2,
  .ret (.var 1)]⟩
def f_is_plain : Fn := ⟨1, 1, [false], [], [.ret (.orE (.isi (.var 0) ["int"] false) (.cmp .Eq (.var 0) (.lit (.str "unit"))))]⟩
def lc_names_in_1 : ME := .lc (.name 1) false [(.call "paths_in" [(.idx (.var 0) (.lit (.int 1)))])] (some (.cmp .Eq (.blt .len (.var 1)) (.lit (.int 2)))) (.tupE [(.lit (.str "type")), (.var 1)])
def lc_names_in_2 : ME := .lc (.name 1) false [(.call "paths_in" [(.idx (.var 0) (.lit (.int 2)))])] (some (.cmp .Eq (.blt .len (.var 1)) (.lit (.int 2)))) (.tupE [(.lit (.str "type")), (.var 1)])
def fo_names_in_3 : MS := .forS (.name 3) false [(.slc (.var 0) (some (.lit (.int 1))) none)] [.asg (.name 2) (.bin .Add (.var 2) (.call "names_in" [(.var 3)]))]
def f_names_in : Fn := ⟨1, 4, [false], [], [.ifS (.call "is_plain" [(.var 0)]) [.ret (.lstE [])] [],
  .ifS (.cmp .Eq (.idx (.var 0) (.lit (.int 0))) (.lit (.str "var"))) [.ret (.ifE (.cmp .Eq (.blt .len (.idx (.var 0) (.lit (.int 1)))) (.lit (.int 2))) (.lstE [(.tupE [(.lit (.str "value")), (.idx (.var 0) (.lit (.int 1)))])]) (.lstE []))] [],
  .ifS (.cmp .Eq (.idx (.var 0) (.lit (.int 0))) (.lit (.str "nil"))) [.ret lc_names_in_1] [],
  .asg (.name 2) (.lstE []),
  .ifS (.cmp .Eq (.idx (.var 0) (.lit (.int 0))) (.lit (.str "fun"))) [.asg (.name 2) lc_names_in_2,
  .ret (.bin .Add (.var 2) (.call "names_in" [(.idx (.var 0) (.lit (.int 3)))]))] [],
  fo_names_in_3,
  .ret (.var 2)]⟩
def lc_uses_of_1 : ME := .lc (.name 6) false [(.call "paths_in" [(.var 4)])] (some (.cmp .Eq (.blt .len (.var 6)) (.lit (.int 2)))) (.tupE [(.lit (.str "type")), (.var 6)])
def fo_uses_of_2 : MS := .forS (.tup [2, 3, 4, 5]) false [(.idx (.var 0) (.lit (.int 2)))] [.ifS (.cmp .IsNot (.var 4) (.lit .none)) [.asg (.name 1) (.bin .Add (.var 1) lc_uses_of_1)] [],
  .ifS (.cmp .Eq (.var 2) (.lit (.str "value"))) [.asg (.name 1) (.bin .Add (.var 1) (.call "names_in" [(.var 5)]))] []]
def lc_uses_of_3 : ME := .lc (.tup [2, 6]) false [(.var 1)] none (.tupE [(.idx (.var 6) (.lit (.int 0))), (.var 2), (.idx (.var 6) (.lit (.int 1)))])
def f_uses_of : Fn := ⟨1, 7, [false], [], [.asg (.name 1) (.lstE []),
  fo_uses_of_2,
  .ret (.un .srtSet lc_uses_of_3)]⟩
def lc_needs_of_1 : ME := .lc (.name 1) false [(.call "uses_of" [(.var 0)])] none (.idx (.var 1) (.lit (.int 0)))
def f_needs_of : Fn := ⟨1, 2, [false], [], [.ret (.un .srtSet lc_needs_of_1)]⟩
def dc_ordered_1 : ME := .dcm (.name 1) false [(.var 0)] none (.idx (.var 1) (.lit (.int 1))) (.call "needs_of" [(.var 1)])
def fo_ordered_2 : MS := .forS (.name 4) false [(.idx (.var 2) (.var 3))] [.ifS (.cmp .NotIn (.var 4) (.var 2)) [.rz "NameWrong" (.tupE [(.var 4)])] []]
def fo_ordered_3 : MS := .forS (.name 3) false [(.blt .sorted (.blt .list (.var 2)))] [fo_ordered_2]
def fo_ordered_4 : MS := .forS (.name 3) false [(.blt .sorted (.blt .list (.var 2)))] [.asg (.name 5) (.call "ring_of" [(.var 2), (.var 3)]),
  .ifS (.cmp .IsNot (.var 5) (.lit .none)) [.rz "Wrong" (.var 5)] []]
def lc_ordered_5 : ME := .lc (.name 3) false [(.blt .sorted (.blt .list (.var 2)))] (some (.cmp .NotIn (.var 3) (.var 6))) (.var 3)
def lc_ordered_6 : ME := .lc (.name 8) false [(.idx (.var 2) (.var 3))] none (.cmp .In (.var 8) (.var 6))
def lc_ordered_7 : ME := .lc (.name 3) false [(.var 7)] (some (.blt .all lc_ordered_6)) (.var 3)
def wh_ordered_8 : MS := .whl (.cmp .Lt (.blt .len (.var 6)) (.blt .len (.var 2))) [.asg (.name 7) lc_ordered_5,
  .asg (.name 9) lc_ordered_7,
  .expr (.mut .append 6 [(.idx (.var 9) (.lit (.int 0)))])]
def f_ordered : Fn := ⟨1, 10, [false], [], [.asg (.name 2) dc_ordered_1,
  fo_ordered_3,
  fo_ordered_4,
  .asg (.name 6) (.lstE []),
  wh_ordered_8,
  .ret (.var 6)]⟩
def fo_ring_of_1 : MS := .forS (.name 5) false [(.idx (.var 0) (.idx (.var 4) (.neg (.lit (.int 1)))))] [.ifS (.cmp .Eq (.var 5) (.var 1)) [.ret (.bin .Add (.var 4) (.lstE [(.var 1)]))] [],
  .ifS (.cmp .NotIn (.var 5) (.var 3)) [.expr (.mut .append 3 [(.var 5)]),
  .expr (.mut .append 2 [(.bin .Add (.var 4) (.lstE [(.var 5)]))])] []]
def wh_ring_of_2 : MS := .whl (.cmp .Gt (.blt .len (.var 2)) (.lit (.int 0))) [.asg (.name 4) (.idx (.var 2) (.lit (.int 0))),
  .asg (.name 2) (.slc (.var 2) (some (.lit (.int 1))) none),
  fo_ring_of_1]
def f_ring_of : Fn := ⟨2, 6, [false, false], [], [.asg (.name 2) (.lstE [(.lstE [(.var 1)])]),
  .asg (.name 3) (.lstE []),
  wh_ring_of_2,
  .ret (.lit .none)]⟩
def f__law_draws : Fn := ⟨1, 1, [false], [], [.ret (.lstE [(.blt .list (.var 0)), (.lit (.int 0)), (.lit (.int 0)), (.lit (.int 1))])]⟩
def f__law_draw : Fn := ⟨2, 4, [false, false], [], [.ifS (.andE (.cmp .Eq (.idx (.var 0) (.lit (.int 2))) (.lit (.int 0))) (.cmp .Lt (.idx (.var 0) (.lit (.int 1))) (.blt .len (.idx (.var 0) (.lit (.int 0)))))) [.asg (.name 2) (.idx (.idx (.var 0) (.lit (.int 0))) (.idx (.var 0) (.lit (.int 1)))),
  .sub 0 (.lit (.int 1)) (.bin .Add (.idx (.var 0) (.lit (.int 1))) (.lit (.int 1))),
  .ifS (.cmp .GtE (.var 2) (.bin .Pow (.lit (.int 10)) (.lit (.int 18)))) [.sub 0 (.lit (.int 2)) (.var 2)] [],
  .sub 0 (.lit (.int 3)) (.bin .Mod (.blt .int (.bin .Add (.bin .Add (.bin .Mult (.idx (.var 0) (.lit (.int 3))) (.lit (.int 48271))) (.var 2)) (.lit (.int 13)))) (.lit (.int 2147483647)))] [],
  .ifS (.cmp .Gt (.idx (.var 0) (.lit (.int 2))) (.lit (.int 0))) [.asg (.name 3) (.bin .Mod (.blt .int (.idx (.var 0) (.lit (.int 2)))) (.var 1)),
  .sub 0 (.lit (.int 2)) (.bin .FloorDiv (.idx (.var 0) (.lit (.int 2))) (.var 1)),
  .ret (.var 3)] [],
  .sub 0 (.lit (.int 3)) (.bin .Mod (.blt .int (.bin .Add (.bin .Mult (.idx (.var 0) (.lit (.int 3))) (.lit (.int 69621))) (.lit (.int 7)))) (.lit (.int 2147483629))),
  .ret (.bin .Mod (.blt .int (.bin .FloorDiv (.idx (.var 0) (.lit (.int 3))) (.lit (.int 11)))) (.var 1))]⟩
def lc__law_same_1 : ME := .lc (.name 2) false [(.var 1)] none (.cmp .In (.var 2) (.var 0))
def lc__law_same_2 : ME := .lc (.name 2) false [(.var 1)] none (.call "_law_same" [(.idx (.var 0) (.var 2)), (.idx (.var 1) (.var 2))])
def lc__law_same_3 : ME := .lc (.name 4) true [(.blt .len (.var 1))] none (.call "_law_same" [(.idx (.var 0) (.var 4)), (.idx (.var 1) (.var 4))])
def f__law_same : Fn := ⟨2, 5, [false, false], [], [.ifS (.cmp .Is (.var 1) (.lit .none)) [.ret (.cmp .Is (.var 0) (.lit .none))] [],
  .ifS (.isi (.var 1) ["bool"] false) [.ret (.andE (.isi (.var 0) ["bool"] false) (.cmp .Eq (.var 0) (.var 1)))] [],
  .ifS (.isi (.var 1) ["int"] false) [.ret (.andE (.isi (.var 0) ["int"] false) (.andE (.notE (.isi (.var 0) ["bool"] false)) (.cmp .Eq (.var 0) (.var 1))))] [],
  .ifS (.isi (.var 1) ["str"] false) [.ret (.andE (.isi (.var 0) ["str"] false) (.cmp .Eq (.var 0) (.var 1)))] [],
  .ifS (.isi (.var 1) ["dict"] false) [.ifS (.orE (.notE (.isi (.var 0) ["dict"] false)) (.orE (.cmp .NotEq (.blt .len (.var 0)) (.blt .len (.var 1))) (.notE (.blt .all lc__law_same_1)))) [.ret (.lit (.bool false))] [],
  .ret (.blt .all lc__law_same_2)] [],
  .ifS (.isi (.var 1) ["list"] false) [.asg (.name 3) (.isi (.var 0) ["list"] false)] [.asg (.name 3) (.isi (.var 0) ["tuple"] false)],
  .ret (.andE (.var 3) (.andE (.cmp .Eq (.blt .len (.var 0)) (.blt .len (.var 1))) (.blt .all lc__law_same_3)))]⟩
def lc__law_copy_1 : ME := .lc (.name 1) false [(.var 0)] none (.call "_law_copy" [(.var 1)])
def lc__law_copy_2 : ME := .lc (.name 1) false [(.var 0)] none (.call "_law_copy" [(.var 1)])
def fo__law_copy_3 : MS := .forS (.name 3) false [(.var 0)] [.sub 2 (.var 3) (.call "_law_copy" [(.idx (.var 0) (.var 3))])]
def f__law_copy : Fn := ⟨1, 4, [false], [], [.ifS (.isi (.var 0) ["list"] false) [.ret lc__law_copy_1] [],
  .ifS (.isi (.var 0) ["tuple"] false) [.ret (.blt .tuple lc__law_copy_2)] [],
  .ifS (.isi (.var 0) ["dict"] false) [.asg (.name 2) (.dctE [] []),
  fo__law_copy_3,
  .ret (.var 2)] [],
  .ret (.var 0)]⟩
def wh__law_paths_1 : MS := .whl (.cmp .Gt (.blt .len (.var 2)) (.lit (.int 0))) [.asg (.name 3) (.mut .popAt 2 [(.lit (.int 0))]),
  .ifS (.andE (.isi (.var 3) ["tuple"] false) (.cmp .Eq (.idx (.var 3) (.lit (.int 0))) (.lit (.str "path")))) [.asg (.name 1) (.ifE (.cmp .In (.idx (.var 3) (.lit (.int 1))) (.var 1)) (.var 1) (.bin .Add (.var 1) (.lstE [(.idx (.var 3) (.lit (.int 1)))])))] [.ifS (.isi (.var 3) ["tuple"] false) [.asg (.name 2) (.bin .Add (.blt .list (.slc (.var 3) (some (.lit (.int 1))) none)) (.var 2))] []]]
def f__law_paths : Fn := ⟨1, 4, [false], [], [.asg (.name 1) (.lstE []),
  .asg (.name 2) (.lstE [(.var 0)]),
  wh__law_paths_1,
  .ret (.var 1)]⟩
def lc__law_uses_in_1 : ME := .lc (.name 3) false [(.call "_law_paths" [(.var 1)])] (some (.cmp .Eq (.blt .len (.var 3)) (.lit (.int 2)))) (.tupE [(.lit (.str "type")), (.var 3)])
def fo__law_uses_in_2 : MS := .forS (.name 5) false [(.slc (.var 0) (some (.lit (.int 1))) none)] [.asg (.name 4) (.bin .Add (.var 4) (.call "_law_uses_in" [(.var 5)]))]
def f__law_uses_in : Fn := ⟨1, 6, [false], [], [.ifS (.notE (.isi (.var 0) ["tuple"] false)) [.ret (.lstE [])] [],
  .ifS (.cmp .Eq (.idx (.var 0) (.lit (.int 0))) (.lit (.str "var"))) [.ret (.ifE (.cmp .Eq (.blt .len (.idx (.var 0) (.lit (.int 1)))) (.lit (.int 2))) (.lstE [(.tupE [(.lit (.str "value")), (.idx (.var 0) (.lit (.int 1)))])]) (.lstE []))] [],
  .ifS (.cmp .In (.idx (.var 0) (.lit (.int 0))) (.tupE [(.lit (.str "nil")), (.lit (.str "fun"))])) [.asg (.name 1) (.idx (.var 0) (.ifE (.cmp .Eq (.idx (.var 0) (.lit (.int 0))) (.lit (.str "nil"))) (.lit (.int 1)) (.lit (.int 2)))),
  .asg (.name 2) (.ifE (.cmp .Eq (.idx (.var 0) (.lit (.int 0))) (.lit (.str "fun"))) (.call "_law_uses_in" [(.idx (.var 0) (.lit (.int 3)))]) (.lstE [])),
  .ret (.bin .Add lc__law_uses_in_1 (.var 2))] [],
  .asg (.name 4) (.lstE []),
  fo__law_uses_in_2,
  .ret (.var 4)]⟩
def lc__law_uses_of_1 : ME := .lc (.name 6) false [(.call "_law_paths" [(.var 4)])] (some (.cmp .Eq (.blt .len (.var 6)) (.lit (.int 2)))) (.tupE [(.lit (.str "type")), (.var 6)])
def fo__law_uses_of_2 : MS := .forS (.tup [2, 3, 4, 5]) false [(.idx (.var 0) (.lit (.int 2)))] [.asg (.name 1) (.bin .Add (.var 1) (.ifE (.cmp .IsNot (.var 4) (.lit .none)) lc__law_uses_of_1 (.lstE []))),
  .asg (.name 1) (.bin .Add (.var 1) (.ifE (.cmp .Eq (.var 2) (.lit (.str "value"))) (.call "_law_uses_in" [(.var 5)]) (.lstE [])))]
def lc__law_uses_of_3 : ME := .lc (.tup [2, 6]) false [(.var 1)] none (.tupE [(.idx (.var 6) (.lit (.int 0))), (.var 2), (.idx (.var 6) (.lit (.int 1)))])
def f__law_uses_of : Fn := ⟨1, 7, [false], [], [.asg (.name 1) (.lstE []),
  fo__law_uses_of_2,
  .ret (.un .srtSet lc__law_uses_of_3)]⟩
def lc__law_needs_1 : ME := .lc (.name 1) false [(.call "_law_uses_of" [(.var 0)])] none (.idx (.var 1) (.lit (.int 0)))
def f__law_needs : Fn := ⟨1, 2, [false], [], [.ret (.un .srtSet lc__law_needs_1)]⟩
def lc__law_ordered_1 : ME := .lc (.name 1) false [(.var 0)] none (.tupE [(.idx (.var 1) (.lit (.int 1))), (.call "_law_needs" [(.var 1)])])
def fo__law_ordered_2 : MS := .forS (.name 4) false [(.idx (.var 2) (.var 3))] [.ifS (.cmp .NotIn (.var 4) (.var 2)) [.ret (.tupE [(.lit (.str "name")), (.tupE [(.var 4)])])] []]
def fo__law_ordered_3 : MS := .forS (.name 3) false [(.blt .sorted (.blt .list (.var 2)))] [fo__law_ordered_2]
def fo__law_ordered_4 : MS := .forS (.name 4) false [(.idx (.var 2) (.idx (.idx (.var 5) (.lit (.int 0))) (.neg (.lit (.int 1)))))] [.ifS (.cmp .Eq (.var 4) (.var 3)) [.ret (.tupE [(.lit (.str "wrong")), (.bin .Add (.idx (.var 5) (.lit (.int 0))) (.lstE [(.var 3)]))])] [],
  .ifS (.cmp .NotIn (.var 4) (.var 6)) [.expr (.mut .append 6 [(.var 4)]),
  .expr (.mut .append 5 [(.bin .Add (.idx (.var 5) (.lit (.int 0))) (.lstE [(.var 4)]))])] []]
def wh__law_ordered_5 : MS := .whl (.cmp .Gt (.blt .len (.var 5)) (.lit (.int 0))) [fo__law_ordered_4,
  .asg (.name 5) (.slc (.var 5) (some (.lit (.int 1))) none)]
def fo__law_ordered_6 : MS := .forS (.name 3) false [(.blt .sorted (.blt .list (.var 2)))] [.par 5 6 (.lstE [(.lstE [(.var 3)])]) (.lstE []),
  wh__law_ordered_5]
def lc__law_ordered_7 : ME := .lc (.name 9) false [(.idx (.var 2) (.var 3))] none (.cmp .In (.var 9) (.var 7))
def lc__law_ordered_8 : ME := .lc (.name 3) false [(.blt .sorted (.blt .list (.var 2)))] (some (.andE (.cmp .NotIn (.var 3) (.var 7)) (.blt .all lc__law_ordered_7))) (.var 3)
def fo__law_ordered_9 : MS := .forS (.name 8) true [(.blt .len (.var 2))] [.expr (.mut .append 7 [(.idx lc__law_ordered_8 (.lit (.int 0)))])]
def f__law_ordered : Fn := ⟨1, 10, [false], [], [.asg (.name 2) (.blt .dict lc__law_ordered_1),
  fo__law_ordered_3,
  fo__law_ordered_6,
  .asg (.name 7) (.lstE []),
  fo__law_ordered_9,
  .ret (.tupE [(.lit (.str "told")), (.var 7)])]⟩
def f__law_told : Fn := ⟨1, 2, [false], [], [.tryS (.tupE [(.lit (.str "told")), (.call "ordered" [(.var 0)])]) [("NameWrong", "name"), ("Wrong", "wrong"), ("SealError", "other")]]⟩
def fo__law_small_unit_1 : MS := .forS (.name 4) true [(.call "_law_draw" [(.var 0), (.lit (.int 4))])] [.asg (.name 5) (.idx (.var 2) (.call "_law_draw" [(.var 0), (.blt .len (.var 2))])),
  .asg (.name 6) (.tupE [(.var 5), (.idx (.lstE [(.lit (.str "t")), (.lit (.str "v"))]) (.call "_law_draw" [(.var 0), (.lit (.int 2))]))]),
  .asg (.name 7) (.call "_law_draw" [(.var 0), (.lit (.int 6))]),
  .asg (.name 8) (.idx (.lstE [(.tupE [(.lit (.str "type")), (.bin .Add (.lit (.str "t")) (.blt .str (.var 4))), (.tupE [(.lit (.str "list")), (.tupE [(.lit (.str "path")), (.var 6)])]), (.lit (.bool true))]), (.tupE [(.lit (.str "value")), (.bin .Add (.lit (.str "v")) (.blt .str (.var 4))), (.tupE [(.lit (.str "path")), (.var 6)]), (.lit (.int 1))]), (.tupE [(.lit (.str "value")), (.bin .Add (.lit (.str "v")) (.blt .str (.var 4))), (.lit .none), (.tupE [(.lit (.str "add")), (.lit (.int 1)), (.tupE [(.lit (.str "var")), (.var 6)])])])]) (.mn false (.var 7) (.lit (.int 2)))),
  .ifS (.cmp .Gt (.var 7) (.lit (.int 2))) [.asg (.name 9) (.idx (.lstE [(.tupE [(.lit (.str "nil")), (.tupE [(.lit (.str "fun")), (.lit (.str "int")), (.tupE [(.lit (.str "path")), (.var 6)])])]), (.tupE [(.lit (.str "fun")), (.lit (.str "x")), (.tupE [(.lit (.str "path")), (.var 6)]), (.tupE [(.lit (.str "var")), (.tupE [(.lit (.str "x"))])])]), (.tupE [(.lit (.str "fun")), (.lit (.str "x")), (.lit (.str "int")), (.tupE [(.lit (.str "call")), (.tupE [(.lit (.str "var")), (.var 6)]), (.tupE [(.lit (.str "var")), (.tupE [(.lit (.str "x"))])])])])]) (.bin .Sub (.var 7) (.lit (.int 3)))),
  .asg (.name 8) (.tupE [(.lit (.str "value")), (.bin .Add (.lit (.str "v")) (.blt .str (.var 4))), (.lit .none), (.var 9)])] [],
  .expr (.mut .append 3 [(.var 8)])]
def f__law_small_unit : Fn := ⟨3, 10, [false, false, false], [], [.asg (.name 3) (.lstE []),
  fo__law_small_unit_1,
  .ret (.tupE [(.lit (.str "unit")), (.var 1), (.blt .tuple (.var 3))])]⟩
def fo_law_1 : MS := .forS (.name 5) true [(.blt .len (.var 3))] [.asg (.name 6) (.ifE (.andE (.cmp .Gt (.call "_law_draw" [(.var 1), (.lit (.int 3))]) (.lit (.int 0))) (.cmp .Gt (.var 5) (.lit (.int 0)))) (.slc (.var 3) none (some (.var 5))) (.var 3)),
  .asg (.name 6) (.bin .Add (.var 6) (.ifE (.cmp .Eq (.call "_law_draw" [(.var 1), (.lit (.int 12))]) (.lit (.int 0))) (.lstE [(.lit (.str "Zz"))]) (.lstE []))),
  .expr (.mut .append 4 [(.call "_law_small_unit" [(.var 1), (.idx (.var 3) (.var 5)), (.var 6)])])]
def lc_law_2 : ME := .lc (.name 5) true [(.blt .len (.var 4))] none (.mut .popAt 4 [(.call "_law_draw" [(.var 1), (.blt .len (.var 4))])])
def lc_law_3 : ME := .lc (.name 8) false [(.var 4)] none (.call "_law_uses_of" [(.var 8)])
def lc_law_4 : ME := .lc (.name 8) false [(.var 4)] none (.call "_law_needs" [(.var 8)])
def lc_law_5 : ME := .lc (.name 8) false [(.var 7)] none (.call "uses_of" [(.var 8)])
def lc_law_6 : ME := .lc (.name 8) false [(.var 7)] none (.call "needs_of" [(.var 8)])
def fo_law_7 : MS := .forS (.name 2) true [(.lit (.int 5))] [.asg (.name 3) (.slc (.lstE [(.lit (.str "A")), (.lit (.str "B")), (.lit (.str "C2")), (.lit (.str "D")), (.lit (.str "Ee")), (.lit (.str "F")), (.lit (.str "G"))]) none (some (.call "_law_draw" [(.var 1), (.lit (.int 8))]))),
  .asg (.name 4) (.lstE []),
  fo_law_1,
  .asg (.name 4) lc_law_2,
  .asg (.name 7) (.call "_law_copy" [(.var 4)]),
  .asg (.name 9) (.lstE [(.call "_law_ordered" [(.var 4)]), lc_law_3, lc_law_4, (.var 4)]),
  .ifS (.notE (.call "_law_same" [(.lstE [(.call "_law_told" [(.var 7)]), lc_law_5, lc_law_6, (.var 7)]), (.var 9)])) [.ret (.lit (.bool false))] []]
def f_law : Fn := ⟨1, 10, [false], [], [fo_law_7,
  .ret (.lit (.bool true))]⟩
def r_paths_in : DefR := ⟨"paths_in", defArgs (at_ 5), defBody (at_ 5), defScope (at_ 5), ["tell", "found", "part", "path"], ["tell"], f_paths_in⟩
def r_is_plain : DefR := ⟨"is_plain", defArgs (at_ 7), defBody (at_ 7), defScope (at_ 7), ["thing"], ["thing"], f_is_plain⟩
def r_names_in : DefR := ⟨"names_in", defArgs (at_ 8), defBody (at_ 8), defScope (at_ 8), ["expression", "path", "found", "part"], ["expression"], f_names_in⟩
def r_uses_of : DefR := ⟨"uses_of", defArgs (at_ 9), defBody (at_ 9), defScope (at_ 9), ["unit", "found", "kind", "name", "tell", "more", "path"], ["unit"], f_uses_of⟩
def r_needs_of : DefR := ⟨"needs_of", defArgs (at_ 10), defBody (at_ 10), defScope (at_ 10), ["unit", "use"], ["unit"], f_needs_of⟩
def r_ordered : DefR := ⟨"ordered", defArgs (at_ 11), defBody (at_ 11), defScope (at_ 11), ["units", "unit", "names", "name", "other", "ring", "found", "left", "one", "some"], ["units"], f_ordered⟩
def r_ring_of : DefR := ⟨"ring_of", defArgs (at_ 12), defBody (at_ 12), defScope (at_ 12), ["names", "name", "ways", "seen", "way", "other"], ["names", "name"], f_ring_of⟩
def r__law_draws : DefR := ⟨"_law_draws", defArgs (at_ 14), defBody (at_ 14), defScope (at_ 14), ["script"], ["script"], f__law_draws⟩
def r__law_draw : DefR := ⟨"_law_draw", defArgs (at_ 15), defBody (at_ 15), defScope (at_ 15), ["draws", "limit", "cell", "value"], ["draws", "limit"], f__law_draw⟩
def r__law_same : DefR := ⟨"_law_same", defArgs (at_ 16), defBody (at_ 16), defScope (at_ 16), ["x", "due", "key", "right", "at"], ["x", "due"], f__law_same⟩
def r__law_copy : DefR := ⟨"_law_copy", defArgs (at_ 17), defBody (at_ 17), defScope (at_ 17), ["thing", "part", "found", "key"], ["thing"], f__law_copy⟩
def r__law_paths : DefR := ⟨"_law_paths", defArgs (at_ 18), defBody (at_ 18), defScope (at_ 18), ["tell", "found", "left", "here"], ["tell"], f__law_paths⟩
def r__law_uses_in : DefR := ⟨"_law_uses_in", defArgs (at_ 19), defBody (at_ 19), defScope (at_ 19), ["expression", "tell", "rest", "path", "found", "part"], ["expression"], f__law_uses_in⟩
def r__law_uses_of : DefR := ⟨"_law_uses_of", defArgs (at_ 20), defBody (at_ 20), defScope (at_ 20), ["unit", "found", "kind", "name", "tell", "more", "path"], ["unit"], f__law_uses_of⟩
def r__law_needs : DefR := ⟨"_law_needs", defArgs (at_ 21), defBody (at_ 21), defScope (at_ 21), ["unit", "use"], ["unit"], f__law_needs⟩
def r__law_ordered : DefR := ⟨"_law_ordered", defArgs (at_ 22), defBody (at_ 22), defScope (at_ 22), ["units", "unit", "names", "name", "other", "ways", "seen", "found", "turn", "one"], ["units"], f__law_ordered⟩
def r__law_told : DefR := ⟨"_law_told", defArgs (at_ 23), defBody (at_ 23), defScope (at_ 23), ["units", "e"], ["units"], f__law_told⟩
def r__law_small_unit : DefR := ⟨"_law_small_unit", defArgs (at_ 24), defBody (at_ 24), defScope (at_ 24), ["draws", "name", "others", "items", "k", "other", "path", "kind", "item", "inner"], ["draws", "name", "others"], f__law_small_unit⟩
def r_law : DefR := ⟨"law", defArgs (at_ 25), defBody (at_ 25), defScope (at_ 25), ["script", "draws", "turn", "names", "units", "k", "others", "given", "unit", "due"], ["script"], f_law⟩
def rs : RTbl := [r_paths_in, r_is_plain, r_names_in, r_uses_of, r_needs_of, r_ordered, r_ring_of, r__law_draws, r__law_draw, r__law_same, r__law_copy, r__law_paths, r__law_uses_in, r__law_uses_of, r__law_needs, r__law_ordered, r__law_told, r__law_small_unit]

def nm : Names := ⟨[], ["len", "isinstance", "list", "tuple", "int", "all", "dict", "range", "str", "bool", "any", "sorted", "set", "min", "max"], ["NameWrong", "Wrong"]⟩
theorem bd_paths_in : Bd r_paths_in := .inl ⟨rfl, fun _ _ _ _ _ _ us hl => match us, hl with | [_], _ => by kernel_rfl⟩
theorem good_paths_in : GoodD rs nm 100 r_paths_in := ⟨by kernel_rfl, rfl, rfl, rfl, by decide, by kernel_rfl, by kernel_rfl, bd_paths_in⟩
theorem bd_is_plain : Bd r_is_plain := .inl ⟨rfl, fun _ _ _ _ _ _ us hl => match us, hl with | [_], _ => by kernel_rfl⟩
theorem good_is_plain : GoodD rs nm 100 r_is_plain := ⟨by kernel_rfl, rfl, rfl, rfl, by decide, by kernel_rfl, by kernel_rfl, bd_is_plain⟩
theorem bd_names_in : Bd r_names_in := .inl ⟨rfl, fun _ _ _ _ _ _ us hl => match us, hl with | [_], _ => by kernel_rfl⟩
theorem good_names_in : GoodD rs nm 100 r_names_in := ⟨by kernel_rfl, rfl, rfl, rfl, by decide, by kernel_rfl, by kernel_rfl, bd_names_in⟩
theorem bd_uses_of : Bd r_uses_of := .inl ⟨rfl, fun _ _ _ _ _ _ us hl => match us, hl with | [_], _ => by kernel_rfl⟩
theorem good_uses_of : GoodD rs nm 100 r_uses_of := ⟨by kernel_rfl, rfl, rfl, rfl, by decide, by kernel_rfl, by kernel_rfl, bd_uses_of⟩
theorem bd_needs_of : Bd r_needs_of := .inl ⟨rfl, fun _ _ _ _ _ _ us hl => match us, hl with | [_], _ => by kernel_rfl⟩
theorem good_needs_of : GoodD rs nm 100 r_needs_of := ⟨by kernel_rfl, rfl, rfl, rfl, by decide, by kernel_rfl, by kernel_rfl, bd_needs_of⟩
theorem bd_ordered : Bd r_ordered := .inl ⟨rfl, fun _ _ _ _ _ _ us hl => match us, hl with | [_], _ => by kernel_rfl⟩
theorem good_ordered : GoodD rs nm 100 r_ordered := ⟨by kernel_rfl, rfl, rfl, rfl, by decide, by kernel_rfl, by kernel_rfl, bd_ordered⟩
theorem bd_ring_of : Bd r_ring_of := .inl ⟨rfl, fun _ _ _ _ _ _ us hl => match us, hl with | [_, _], _ => by kernel_rfl⟩
theorem good_ring_of : GoodD rs nm 100 r_ring_of := ⟨by kernel_rfl, rfl, rfl, rfl, by decide, by kernel_rfl, by kernel_rfl, bd_ring_of⟩
theorem bd__law_draws : Bd r__law_draws := .inl ⟨rfl, fun _ _ _ _ _ _ us hl => match us, hl with | [_], _ => by kernel_rfl⟩
theorem good__law_draws : GoodD rs nm 100 r__law_draws := ⟨by kernel_rfl, rfl, rfl, rfl, by decide, by kernel_rfl, by kernel_rfl, bd__law_draws⟩
theorem bd__law_draw : Bd r__law_draw := .inl ⟨rfl, fun _ _ _ _ _ _ us hl => match us, hl with | [_, _], _ => by kernel_rfl⟩
theorem good__law_draw : GoodD rs nm 100 r__law_draw := ⟨by kernel_rfl, rfl, rfl, rfl, by decide, by kernel_rfl, by kernel_rfl, bd__law_draw⟩
theorem bd__law_same : Bd r__law_same := .inl ⟨rfl, fun _ _ _ _ _ _ us hl => match us, hl with | [_, _], _ => by kernel_rfl⟩
theorem good__law_same : GoodD rs nm 100 r__law_same := ⟨by kernel_rfl, rfl, rfl, rfl, by decide, by kernel_rfl, by kernel_rfl, bd__law_same⟩
theorem bd__law_copy : Bd r__law_copy := .inl ⟨rfl, fun _ _ _ _ _ _ us hl => match us, hl with | [_], _ => by kernel_rfl⟩
theorem good__law_copy : GoodD rs nm 100 r__law_copy := ⟨by kernel_rfl, rfl, rfl, rfl, by decide, by kernel_rfl, by kernel_rfl, bd__law_copy⟩
theorem bd__law_paths : Bd r__law_paths := .inl ⟨rfl, fun _ _ _ _ _ _ us hl => match us, hl with | [_], _ => by kernel_rfl⟩
theorem good__law_paths : GoodD rs nm 100 r__law_paths := ⟨by kernel_rfl, rfl, rfl, rfl, by decide, by kernel_rfl, by kernel_rfl, bd__law_paths⟩
theorem bd__law_uses_in : Bd r__law_uses_in := .inl ⟨rfl, fun _ _ _ _ _ _ us hl => match us, hl with | [_], _ => by kernel_rfl⟩
theorem good__law_uses_in : GoodD rs nm 100 r__law_uses_in := ⟨by kernel_rfl, rfl, rfl, rfl, by decide, by kernel_rfl, by kernel_rfl, bd__law_uses_in⟩
theorem bd__law_uses_of : Bd r__law_uses_of := .inl ⟨rfl, fun _ _ _ _ _ _ us hl => match us, hl with | [_], _ => by kernel_rfl⟩
theorem good__law_uses_of : GoodD rs nm 100 r__law_uses_of := ⟨by kernel_rfl, rfl, rfl, rfl, by decide, by kernel_rfl, by kernel_rfl, bd__law_uses_of⟩
theorem bd__law_needs : Bd r__law_needs := .inl ⟨rfl, fun _ _ _ _ _ _ us hl => match us, hl with | [_], _ => by kernel_rfl⟩
theorem good__law_needs : GoodD rs nm 100 r__law_needs := ⟨by kernel_rfl, rfl, rfl, rfl, by decide, by kernel_rfl, by kernel_rfl, bd__law_needs⟩
theorem bd__law_ordered : Bd r__law_ordered := .inl ⟨rfl, fun _ _ _ _ _ _ us hl => match us, hl with | [_], _ => by kernel_rfl⟩
theorem good__law_ordered : GoodD rs nm 100 r__law_ordered := ⟨by kernel_rfl, rfl, rfl, rfl, by decide, by kernel_rfl, by kernel_rfl, bd__law_ordered⟩
theorem bd__law_told : Bd r__law_told := .inl ⟨rfl, fun _ _ _ _ _ _ us hl => match us, hl with | [_], _ => by kernel_rfl⟩
theorem good__law_told : GoodD rs nm 100 r__law_told := ⟨by kernel_rfl, rfl, rfl, rfl, by decide, by kernel_rfl, by kernel_rfl, bd__law_told⟩
theorem bd__law_small_unit : Bd r__law_small_unit := .inl ⟨rfl, fun _ _ _ _ _ _ us hl => match us, hl with | [_, _, _], _ => by kernel_rfl⟩
theorem good__law_small_unit : GoodD rs nm 100 r__law_small_unit := ⟨by kernel_rfl, rfl, rfl, rfl, by decide, by kernel_rfl, by kernel_rfl, bd__law_small_unit⟩
theorem bd_law : Bd r_law := .inl ⟨rfl, fun _ _ _ _ _ _ us hl => match us, hl with | [_], _ => by kernel_rfl⟩
theorem goods : ∀ r ∈ rs, tbOf rs r.name = some r.fn → GoodD rs nm 100 r := by
  intro r hr _
  simp only [rs, List.mem_cons, List.not_mem_nil, or_false] at hr
  rcases hr with rfl | rfl | rfl | rfl | rfl | rfl | rfl | rfl | rfl | rfl | rfl | rfl | rfl | rfl | rfl | rfl | rfl | rfl
  · exact good_paths_in
  · exact good_is_plain
  · exact good_names_in
  · exact good_uses_of
  · exact good_needs_of
  · exact good_ordered
  · exact good_ring_of
  · exact good__law_draws
  · exact good__law_draw
  · exact good__law_same
  · exact good__law_copy
  · exact good__law_paths
  · exact good__law_uses_in
  · exact good__law_uses_of
  · exact good__law_needs
  · exact good__law_ordered
  · exact good__law_told
  · exact good__law_small_unit
abbrev fuelW : Nat := 100000
theorem cl_paths_in (n : Nat) (os : List O) : (cxAt rs fuelW (n + 1)).call "paths_in" os = runFn (cxAt rs fuelW n) f_paths_in (withDfl f_paths_in os) := by kernel_rfl
theorem cl_is_plain (n : Nat) (os : List O) : (cxAt rs fuelW (n + 1)).call "is_plain" os = runFn (cxAt rs fuelW n) f_is_plain (withDfl f_is_plain os) := by kernel_rfl
theorem cl_names_in (n : Nat) (os : List O) : (cxAt rs fuelW (n + 1)).call "names_in" os = runFn (cxAt rs fuelW n) f_names_in (withDfl f_names_in os) := by kernel_rfl
theorem cl_uses_of (n : Nat) (os : List O) : (cxAt rs fuelW (n + 1)).call "uses_of" os = runFn (cxAt rs fuelW n) f_uses_of (withDfl f_uses_of os) := by kernel_rfl
theorem cl_needs_of (n : Nat) (os : List O) : (cxAt rs fuelW (n + 1)).call "needs_of" os = runFn (cxAt rs fuelW n) f_needs_of (withDfl f_needs_of os) := by kernel_rfl
theorem cl_ordered (n : Nat) (os : List O) : (cxAt rs fuelW (n + 1)).call "ordered" os = runFn (cxAt rs fuelW n) f_ordered (withDfl f_ordered os) := by kernel_rfl
theorem cl_ring_of (n : Nat) (os : List O) : (cxAt rs fuelW (n + 1)).call "ring_of" os = runFn (cxAt rs fuelW n) f_ring_of (withDfl f_ring_of os) := by kernel_rfl
theorem cl__law_draw (n : Nat) (os : List O) : (cxAt rs fuelW (n + 1)).call "_law_draw" os = runFn (cxAt rs fuelW n) f__law_draw (withDfl f__law_draw os) := by kernel_rfl
theorem cl__law_same (n : Nat) (os : List O) : (cxAt rs fuelW (n + 1)).call "_law_same" os = runFn (cxAt rs fuelW n) f__law_same (withDfl f__law_same os) := by kernel_rfl
theorem cl__law_copy (n : Nat) (os : List O) : (cxAt rs fuelW (n + 1)).call "_law_copy" os = runFn (cxAt rs fuelW n) f__law_copy (withDfl f__law_copy os) := by kernel_rfl
theorem cl__law_paths (n : Nat) (os : List O) : (cxAt rs fuelW (n + 1)).call "_law_paths" os = runFn (cxAt rs fuelW n) f__law_paths (withDfl f__law_paths os) := by kernel_rfl
theorem cl__law_uses_in (n : Nat) (os : List O) : (cxAt rs fuelW (n + 1)).call "_law_uses_in" os = runFn (cxAt rs fuelW n) f__law_uses_in (withDfl f__law_uses_in os) := by kernel_rfl
theorem cl__law_uses_of (n : Nat) (os : List O) : (cxAt rs fuelW (n + 1)).call "_law_uses_of" os = runFn (cxAt rs fuelW n) f__law_uses_of (withDfl f__law_uses_of os) := by kernel_rfl
theorem cl__law_needs (n : Nat) (os : List O) : (cxAt rs fuelW (n + 1)).call "_law_needs" os = runFn (cxAt rs fuelW n) f__law_needs (withDfl f__law_needs os) := by kernel_rfl
theorem cl__law_ordered (n : Nat) (os : List O) : (cxAt rs fuelW (n + 1)).call "_law_ordered" os = runFn (cxAt rs fuelW n) f__law_ordered (withDfl f__law_ordered os) := by kernel_rfl
theorem cl__law_told (n : Nat) (os : List O) : (cxAt rs fuelW (n + 1)).call "_law_told" os = runFn (cxAt rs fuelW n) f__law_told (withDfl f__law_told os) := by kernel_rfl
theorem cl__law_small_unit (n : Nat) (os : List O) : (cxAt rs fuelW (n + 1)).call "_law_small_unit" os = runFn (cxAt rs fuelW n) f__law_small_unit (withDfl f__law_small_unit os) := by kernel_rfl
end K44

set_option Elab.async false
set_option linter.all false
set_option maxRecDepth 100000
set_option maxHeartbeats 4000000
/-! dicts keyed by texts -/
namespace SW
open PySem PySem.Spec L2
open PyProof.Rows hiding St
abbrev KV := List (Str × D)
def kvD (m : KV) : List (D × D) := m.map fun p => (.str p.1, p.2)
def getS (m : KV) (k : Str) : Option D := (m.find? fun p => p.1 == k).map (·.2)
def putS (m : KV) (k : Str) (v : D) : KV := if (m.any fun p => p.1 == k) = true then m.map (fun p => if (p.1 == k) = true then (p.1, v) else p) else m ++ [(k, v)]
theorem dget_kvD (m : KV) (k : Str) : dget (kvD m) (.str k) = getS m k := by
  unfold dget getS kvD
  rw [List.find?_map, Option.map_map]
  have : ((fun p : D × D => PyData.eqv p.1 (.str k)) ∘ fun p : Str × D => (PyData.str p.1, p.2)) = fun p => p.1 == k := by
    funext p
    simp
  rw [this]
  rfl
theorem dput_kvD (m : KV) (k : Str) (v : D) : dput (kvD m) (.str k) v = kvD (putS m k v) := by
  unfold dput putS kvD
  have e : ∀ p : Str × D, PyData.eqv (PyData.str p.1) (.str k) = (p.1 == k) := fun p => by simp
  have e0 : (m.map fun p : Str × D => (PyData.str p.1, p.2)).any (fun p => PyData.eqv p.1 (.str k)) = m.any fun p => p.1 == k := by
    rw [List.any_map]
    congr 1
  rw [e0]
  split
  · rw [List.map_map, List.map_map]
    congr 1
    funext p
    simp only [Function.comp, e]
    split <;> rfl
  · rw [List.map_append]
    rfl
theorem fits_kvD (m : KV) (k : Str) : keyFits (kvD m) (.str k) = true := by
  unfold keyFits kvD
  rw [Bool.and_eq_true]
  refine ⟨rfl, ?_⟩
  rw [List.all_map, List.all_eq_true]
  intro p _
  rfl
theorem keys_kvD (m : KV) : ((kvD m).all fun p => isKey1 p.1) = true := by
  unfold kvD
  rw [List.all_map, List.all_eq_true]
  intro p _
  rfl
theorem items_kvD (m : KV) : items (.dict (kvD m)) = some (m.map fun p => .str p.1) := by
  simp only [items]
  rw [if_pos (keys_kvD m)]
  unfold kvD
  rw [List.map_map]
  rfl
theorem len_kvD (m : KV) : (kvD m).length = m.length := by unfold kvD; rw [List.length_map]
theorem getS_nil (n : Str) : getS [] n = none := rfl
theorem getS_cons (p : Str × D) (m : KV) (n : Str) : getS (p :: m) n = if p.1 = n then some p.2 else getS m n := by
  unfold getS
  rw [List.find?_cons]
  by_cases h : p.1 = n
  · rw [if_pos h, show (p.1 == n) = true from by simpa using h]; rfl
  · rw [if_neg h, show (p.1 == n) = false from by simpa using h]
theorem getS_app (m : KV) (k n : Str) (v : D) : (m.any fun p => p.1 == k) = false → getS (m ++ [(k, v)]) n = if k = n then some v else getS m n := by
  induction m with
  | nil => intro _; rw [List.nil_append, getS_cons]
  | cons p m ih =>
    intro h
    rw [List.any_cons, Bool.or_eq_false_iff] at h
    rw [List.cons_append, getS_cons, getS_cons, ih h.2]
    by_cases e : p.1 = n
    · rw [if_pos e, if_pos e, if_neg]
      intro q
      rw [e, q] at h
      simp at h
    · rw [if_neg e, if_neg e]
theorem getS_map (m : KV) (k n : Str) (v : D) : getS (m.map fun p => if (p.1 == k) = true then (p.1, v) else p) n = if k = n ∧ (m.any fun p => p.1 == k) = true then some v else getS m n := by
  induction m with
  | nil => simp [getS]
  | cons p m ih =>
    rw [List.map_cons, getS_cons, getS_cons, ih]
    by_cases e : p.1 = k
    · subst e
      by_cases e2 : p.1 = n
      · simp [e2]
      · simp [e2]
    · have e' : (p.1 == k) = false := by simpa using e
      by_cases e2 : p.1 = n
      · subst e2
        simp [e', e, Ne.symm e]
      · rw [List.any_cons, e', Bool.false_or, if_neg (show ¬ (if false = true then (p.1, v) else p).1 = n from e2), if_neg e2]
theorem getS_put (m : KV) (k n : Str) (v : D) : getS (putS m k v) n = if k = n then some v else getS m n := by
  unfold putS
  split
  · rename_i h
    rw [getS_map, h]
    simp
  · rename_i h
    exact getS_app m k n v (by cases q : m.any (fun p => p.1 == k) with | true => exact absurd q h | false => rfl)
theorem getS_isSome (m : KV) (k : Str) : (getS m k).isSome = m.any fun p => p.1 == k := by
  induction m with
  | nil => rfl
  | cons p m ih =>
    rw [getS_cons, List.any_cons, ← ih]
    by_cases e : p.1 = k
    · simp [e]
    · simp [e]
theorem putS_new (m : KV) (k : Str) (v : D) (h : k ∉ m.map (·.1)) : putS m k v = m ++ [(k, v)] := by
  unfold putS
  rw [if_neg]
  intro q
  obtain ⟨p, hp, e⟩ := List.any_eq_true.mp q
  exact h (List.mem_map.mpr ⟨p, hp, by simpa using e⟩)
theorem putS_len (m : KV) (k : Str) (v : D) : (putS m k v).length ≤ m.length + 1 := by
  unfold putS
  split
  · simp
  · simp
theorem getS_mem {m : KV} {k : Str} {v : D} (nd : (m.map (·.1)).Nodup) (h : (k, v) ∈ m) : getS m k = some v := by
  induction m with
  | nil => cases h
  | cons p m ih =>
    rw [List.map_cons, List.nodup_cons] at nd
    rw [getS_cons]
    rcases List.mem_cons.mp h with e | h
    · subst e; simp
    · rw [if_neg, ih nd.2 h]
      intro e
      exact nd.1 (List.mem_map.mpr ⟨(k, v), h, e.symm⟩)
theorem inD_kv {m : KV} {k : Str} : inD (.str k) (.dict (kvD m)) = some (m.any fun p => p.1 == k) := by
  show (if keyFits (kvD m) (.str k) = true then some (dget (kvD m) (.str k)).isSome else none) = _
  rw [if_pos (fits_kvD m k), dget_kvD, getS_isSome]
theorem idxD_kv {m : KV} {k : Str} : idxD (.dict (kvD m)) (.str k) = getS m k := by
  show (if keyFits (kvD m) (.str k) = true then dget (kvD m) (.str k) else none) = _
  rw [if_pos (fits_kvD m k), dget_kvD]
theorem subO_kv {m : KV} {k : Str} {v : D} (h : m.length < sizeLine) : subO (.dct (kvD m)) (.str k) v = some (.dct (kvD (putS m k v))) := by
  show (if keyFits (kvD m) (.str k) = true ∧ (kvD m).length < sizeLine then some (O.dct (dput (kvD m) (.str k) v)) else none) = _
  rw [if_pos ⟨fits_kvD m k, by rw [len_kvD]; exact h⟩, dput_kvD]
/-- many entries, one by one -/
def bldS {α : Type} (f : α → Str) (v : α → D) (m : KV) (l : List α) : KV := l.foldl (fun m x => putS m (f x) (v x)) m
theorem bldS_D {α : Type} (f : α → Str) (v : α → D) : ∀ (l : List α) (m : KV), (l.map fun x => ((.str (f x) : D), v x)).foldl (fun acc p => dput acc p.1 p.2) (kvD m) = kvD (bldS f v m l)
  | [], m => rfl
  | x :: l, m => by
    rw [List.map_cons, List.foldl_cons, dput_kvD, bldS_D f v l]
    rfl
theorem dputAll_D {α : Type} (f : α → Str) (v : α → D) : ∀ (l : List α) (m : KV), dputAll (kvD m) (l.map fun x => ((.str (f x) : D), v x)) = some (kvD (bldS f v m l))
  | [], m => rfl
  | x :: l, m => by
    show (if keyFits (kvD m) (.str (f x)) = true then dputAll (dput (kvD m) (.str (f x)) (v x)) (l.map fun x => ((.str (f x) : D), v x)) else none) = _
    rw [if_pos (fits_kvD m _), dput_kvD, dputAll_D f v l]
    rfl
theorem bldS_len {α : Type} (f : α → Str) (v : α → D) : ∀ (l : List α) (m : KV), (bldS f v m l).length ≤ m.length + l.length
  | [], m => Nat.le_refl _
  | x :: l, m => by
    have h1 := bldS_len f v l (putS m (f x) (v x))
    have h2 := putS_len m (f x) (v x)
    show (bldS f v (putS m (f x) (v x)) l).length ≤ _
    rw [List.length_cons]
    omega
theorem bldS_app {α : Type} (f : α → Str) (v : α → D) (l l' : List α) (m : KV) : bldS f v m (l ++ l') = bldS f v (bldS f v m l) l' := List.foldl_append
end SW

set_option Elab.async false
set_option linter.all false
set_option maxRecDepth 100000
set_option maxHeartbeats 8000000
/-! what all laws have: numbers drawn, copies, sameness -/
namespace Std
open PySem PySem.Spec L2 SW
open PyProof.Rows hiding St
def f__law_draw : Fn := ⟨2, 4, [false, false], [], [.ifS (.andE (.cmp .Eq (.idx (.var 0) (.lit (.int 2))) (.lit (.int 0))) (.cmp .Lt (.idx (.var 0) (.lit (.int 1))) (.blt .len (.idx (.var 0) (.lit (.int 0)))))) [.asg (.name 2) (.idx (.idx (.var 0) (.lit (.int 0))) (.idx (.var 0) (.lit (.int 1)))),
  .sub 0 (.lit (.int 1)) (.bin .Add (.idx (.var 0) (.lit (.int 1))) (.lit (.int 1))),
  .ifS (.cmp .GtE (.var 2) (.bin .Pow (.lit (.int 10)) (.lit (.int 18)))) [.sub 0 (.lit (.int 2)) (.var 2)] [],
  .sub 0 (.lit (.int 3)) (.bin .Mod (.blt .int (.bin .Add (.bin .Add (.bin .Mult (.idx (.var 0) (.lit (.int 3))) (.lit (.int 48271))) (.var 2)) (.lit (.int 13)))) (.lit (.int 2147483647)))] [],
  .ifS (.cmp .Gt (.idx (.var 0) (.lit (.int 2))) (.lit (.int 0))) [.asg (.name 3) (.bin .Mod (.blt .int (.idx (.var 0) (.lit (.int 2)))) (.var 1)),
  .sub 0 (.lit (.int 2)) (.bin .FloorDiv (.idx (.var 0) (.lit (.int 2))) (.var 1)),
  .ret (.var 3)] [],
  .sub 0 (.lit (.int 3)) (.bin .Mod (.blt .int (.bin .Add (.bin .Mult (.idx (.var 0) (.lit (.int 3))) (.lit (.int 69621))) (.lit (.int 7)))) (.lit (.int 2147483629))),
  .ret (.bin .Mod (.blt .int (.bin .FloorDiv (.idx (.var 0) (.lit (.int 3))) (.lit (.int 11)))) (.var 1))]⟩
def lc__law_same_1 : ME := .lc (.name 2) false [(.var 1)] none (.cmp .In (.var 2) (.var 0))
def lc__law_same_2 : ME := .lc (.name 2) false [(.var 1)] none (.call "_law_same" [(.idx (.var 0) (.var 2)), (.idx (.var 1) (.var 2))])
def lc__law_same_3 : ME := .lc (.name 4) true [(.blt .len (.var 1))] none (.call "_law_same" [(.idx (.var 0) (.var 4)), (.idx (.var 1) (.var 4))])
def f__law_same : Fn := ⟨2, 5, [false, false], [], [.ifS (.cmp .Is (.var 1) (.lit .none)) [.ret (.cmp .Is (.var 0) (.lit .none))] [],
  .ifS (.isi (.var 1) ["bool"] false) [.ret (.andE (.isi (.var 0) ["bool"] false) (.cmp .Eq (.var 0) (.var 1)))] [],
  .ifS (.isi (.var 1) ["int"] false) [.ret (.andE (.isi (.var 0) ["int"] false) (.andE (.notE (.isi (.var 0) ["bool"] false)) (.cmp .Eq (.var 0) (.var 1))))] [],
  .ifS (.isi (.var 1) ["str"] false) [.ret (.andE (.isi (.var 0) ["str"] false) (.cmp .Eq (.var 0) (.var 1)))] [],
  .ifS (.isi (.var 1) ["dict"] false) [.ifS (.orE (.notE (.isi (.var 0) ["dict"] false)) (.orE (.cmp .NotEq (.blt .len (.var 0)) (.blt .len (.var 1))) (.notE (.blt .all lc__law_same_1)))) [.ret (.lit (.bool false))] [],
  .ret (.blt .all lc__law_same_2)] [],
  .ifS (.isi (.var 1) ["list"] false) [.asg (.name 3) (.isi (.var 0) ["list"] false)] [.asg (.name 3) (.isi (.var 0) ["tuple"] false)],
  .ret (.andE (.var 3) (.andE (.cmp .Eq (.blt .len (.var 0)) (.blt .len (.var 1))) (.blt .all lc__law_same_3)))]⟩
def lc__law_copy_1 : ME := .lc (.name 1) false [(.var 0)] none (.call "_law_copy" [(.var 1)])
def lc__law_copy_2 : ME := .lc (.name 1) false [(.var 0)] none (.call "_law_copy" [(.var 1)])
def fo__law_copy_3 : MS := .forS (.name 3) false [(.var 0)] [.sub 2 (.var 3) (.call "_law_copy" [(.idx (.var 0) (.var 3))])]
def f__law_copy : Fn := ⟨1, 4, [false], [], [.ifS (.isi (.var 0) ["list"] false) [.ret lc__law_copy_1] [],
  .ifS (.isi (.var 0) ["tuple"] false) [.ret (.blt .tuple lc__law_copy_2)] [],
  .ifS (.isi (.var 0) ["dict"] false) [.asg (.name 2) (.dctE [] []),
  fo__law_copy_3,
  .ret (.var 2)] [],
  .ret (.var 0)]⟩
/-! ### numbers drawn -/
def DW (ds : List D) : Prop := ∃ (ns : List Int) (i : Nat) (b s : Int), ds = [.list (ns.map .int), .int i, .int b, .int s] ∧ 0 ≤ b ∧ 0 ≤ s ∧ s < 2147483647
theorem draw_run {c : SW.Ctx} {ds : List D} {limit : Int} (h : DW ds) (h1 : 0 < limit) (h2 : limit < 1000000000) :
    ∃ ds' v, runFn c f__law_draw [.lst ds, .val (.int limit)] = .ok (.val (.int v)) [.lst ds', .val (.int limit)] ∧ DW ds' ∧ 0 ≤ v ∧ v < limit := by
  obtain ⟨ns, i, b, s, rfl, hb, hs, hs2⟩ := h
  have e3 : limit < 1073741824 := by omega
  have m1 : 0 ≤ (s * 69621 + 7) % 2147483629 := Int.emod_nonneg _ (by decide)
  have m2 : (s * 69621 + 7) % 2147483629 < 2147483629 := Int.emod_lt_of_pos _ (by decide)
  have hmul : ∀ k : Int, mulOk k 48271 = true := fun k => by simp [mulOk]
  have hmul2 : ∀ k : Int, mulOk k 69621 = true := fun k => by simp [mulOk]
  by_cases c1 : b = 0 ∧ i < ns.length
  · obtain ⟨rfl, hi⟩ := c1
    have hat : atI (ns.map PyData.int) (i : Int) = some (.int ns[i]) := by
      rw [atI_nat' _ _ (by rw [List.length_map]; exact hi)]
      simp [hi]
    have hlt : (decide ((i : Int) < (ns.length : Int))) = true := decide_eq_true (by omega)
    have k1 : 0 ≤ (s * 48271 + ns[i] + 13) % 2147483647 := Int.emod_nonneg _ (by decide)
    have k2 : (s * 48271 + ns[i] + 13) % 2147483647 < 2147483647 := Int.emod_lt_of_pos _ (by decide)
    by_cases c2 : 1000000000000000000 ≤ ns[i]
    · refine ⟨[.list (ns.map .int), .int ((i + 1 : Nat) : Int), .int (ns[i] / limit), .int ((s * 48271 + ns[i] + 13) % 2147483647)], ns[i] % limit, ?_, ⟨ns, i + 1, _, _, rfl, Int.ediv_nonneg (by omega) (by omega), k1, k2⟩, Int.emod_nonneg _ (by omega), Int.emod_lt_of_pos _ h1⟩
      have c3 : 0 < ns[i] := by omega
      simp [f__law_draw, hat, hi, c2, hmul, h1, e3, c3]
    · refine ⟨[.list (ns.map .int), .int ((i + 1 : Nat) : Int), .int 0, .int (((s * 48271 + ns[i] + 13) % 2147483647 * 69621 + 7) % 2147483629)], (((s * 48271 + ns[i] + 13) % 2147483647 * 69621 + 7) % 2147483629 / 11) % limit, ?_, ⟨ns, i + 1, _, _, rfl, Int.le_refl _, Int.emod_nonneg _ (by decide), Int.lt_trans (Int.emod_lt_of_pos _ (by decide)) (by decide)⟩, Int.emod_nonneg _ (by omega), Int.emod_lt_of_pos _ h1⟩
      have c3 : ¬ 1000000000000000000 ≤ ns[i] := c2
      simp [f__law_draw, hat, hi, c3, hmul, hmul2, h1, e3]
  · by_cases c2 : 0 < b
    · refine ⟨[.list (ns.map .int), .int i, .int (b / limit), .int s], b % limit, ?_, ⟨ns, i, _, _, rfl, Int.ediv_nonneg hb (by omega), hs, hs2⟩, Int.emod_nonneg _ (by omega), Int.emod_lt_of_pos _ h1⟩
      have c3 : ¬ b = 0 := by omega
      have c4 : (b == 0) = false := by simp [c3]
      simp [f__law_draw, c4, c3, c2, hmul, hmul2, h1, e3]
    · have e : b = 0 := by omega
      subst e
      have hi : ¬ i < ns.length := fun q => c1 ⟨rfl, q⟩
      refine ⟨[.list (ns.map .int), .int i, .int 0, .int ((s * 69621 + 7) % 2147483629)], ((s * 69621 + 7) % 2147483629 / 11) % limit, ?_, ⟨ns, i, _, _, rfl, Int.le_refl _, m1, Int.lt_trans m2 (by decide)⟩, Int.emod_nonneg _ (by omega), Int.emod_lt_of_pos _ h1⟩
      simp [f__law_draw, hi, hmul, hmul2, h1, e3]
/-! ### data that are small -/
def okS (s : Str) : Bool := decide (s.length ≤ 100) && PyData.strOk s
def strK : D → Bool
  | .str s => okS s
  | _ => false
def kOf : D → Str
  | .str s => s
  | _ => ("" : Str)
def okD : Nat → D → Bool
  | _, .none => true
  | _, .bool _ => true
  | _, .int _ => true
  | _, .str s => okS s
  | 0, _ => false
  | k + 1, .list ds => ds.all (okD k) && decide (ds.length ≤ 1000)
  | k + 1, .tuple ds => ds.all (okD k) && decide (ds.length ≤ 1000)
  | k + 1, .dict kvs => (kvs.all fun p => strK p.1 && okD k p.2) && decide (kvs.length ≤ 1000) && decide ((kvs.map fun p => kOf p.1).Nodup)
theorem depthAll_le {k : Nat} : ∀ {ds : List D}, (∀ d ∈ ds, d.depth ≤ k) → PyData.depthAll ds ≤ k
  | [], _ => Nat.zero_le _
  | d :: ds, h => by
    rw [PyData.depthAll]
    exact Nat.max_le.mpr ⟨h d (by simp), depthAll_le fun e he => h e (by simp [he])⟩
theorem canAll {ds : List D} (h : ∀ d ∈ ds, d.canLay0 = true) : PyData.canLayAll0 ds = true := by
  induction ds with
  | nil => rfl
  | cons d ds ih =>
    rw [PyData.canLayAll0, h d (by simp), ih fun e he => h e (by simp [he])]
    rfl
end Std

set_option Elab.async false
set_option linter.all false
set_option maxRecDepth 100000
set_option maxHeartbeats 8000000
namespace Std
open PySem PySem.Spec L2 SW
open PyProof.Rows hiding St
theorem kvD_nil : kvD [] = [] := rfl
theorem foL_nx {t : MT} {b : Rho → S} {d : SW.D} {ds : List SW.D} {ρ ρ' ρ'' : Rho} (h1 : bindT t (.val d) ρ = some ρ') (h2 : b ρ' = .nx ρ'') : foL t b (d :: ds) ρ = foL t b ds ρ'' := by
  show (match bindT t (.val d) ρ with
    | some ρ' => kLoop (foL t b ds) (b ρ')
    | none => .bad) = _
  rw [h1]
  show kLoop (foL t b ds) (b ρ') = _
  rw [h2]
  rfl
theorem foL_ct {t : MT} {b : Rho → S} {d : SW.D} {ds : List SW.D} {ρ ρ' ρ'' : Rho} (h1 : bindT t (.val d) ρ = some ρ') (h2 : b ρ' = .ct ρ'') : foL t b (d :: ds) ρ = foL t b ds ρ'' := by
  show (match bindT t (.val d) ρ with
    | some ρ' => kLoop (foL t b ds) (b ρ')
    | none => .bad) = _
  rw [h1]
  show kLoop (foL t b ds) (b ρ') = _
  rw [h2]
  rfl
theorem seq_nx {c : SW.Ctx} {np : Nat} {s : MS} {ss : List MS} {ρ ρ' : Rho} (h : evS c np s ρ = .nx ρ') : evSs c np (s :: ss) ρ = evSs c np ss ρ' := by
  rw [evSs.eq_2]
  show kSeq (evSs c np ss) (evS c np s ρ) = _
  rw [h]
  rfl
theorem fmap_some {α β : Type} (f : α → β) (l : List α) : l.filterMap (fun a => some (f a)) = l.map f := by
  rw [List.filterMap_eq_map']
/-- the texts and values of a dict -/
def kvOf (kvs : List (D × D)) : KV := kvs.map fun p => (kOf p.1, p.2)
theorem kvOf_D {kvs : List (D × D)} (h : ∀ p ∈ kvs, strK p.1 = true) : kvD (kvOf kvs) = kvs := by
  unfold kvD kvOf
  rw [List.map_map]
  conv => rhs; rw [← List.map_id kvs]
  refine List.map_congr_left fun p hp => ?_
  have := h p hp
  obtain ⟨k, v⟩ := p
  cases k with
  | str s => rfl
  | _ => cases this
theorem okD_dict {k : Nat} {kvs : List (D × D)} (h : okD (k + 1) (.dict kvs) = true) : ∃ m : KV, kvs = kvD m ∧ (m.map (·.1)).Nodup ∧ m.length ≤ 1000 ∧ ∀ p ∈ m, okS p.1 = true ∧ okD k p.2 = true := by
  have h : ((kvs.all fun p => strK p.1 && okD k p.2) && decide (kvs.length ≤ 1000) && decide ((kvs.map fun p => kOf p.1).Nodup)) = true := h
  simp only [Bool.and_eq_true, List.all_eq_true, decide_eq_true_eq] at h
  obtain ⟨⟨h1, h2⟩, h3⟩ := h
  refine ⟨kvOf kvs, (kvOf_D fun p hp => (h1 p hp).1).symm, ?_, by unfold kvOf; rw [List.length_map]; exact h2, fun p hp => ?_⟩
  · unfold kvOf
    rw [List.map_map]
    exact h3
  · obtain ⟨q, hq, rfl⟩ := List.mem_map.mp hp
    refine ⟨?_, (h1 q hq).2⟩
    have := (h1 q hq).1
    obtain ⟨k, v⟩ := q
    cases k with
    | str s => exact this
    | _ => cases this
def copyO : D → O
  | .list ds => .lst ds
  | .dict kvs => .dct kvs
  | d => .val d
@[simp] theorem copyO_data (d : D) : (copyO d).data = d := by cases d <;> rfl
section
variable {cx : Nat → SW.Ctx} (hc : ∀ n os, (cx (n + 1)).call "_law_copy" os = runFn (cx n) f__law_copy os)
theorem lc_copy {c : SW.Ctx} {e : ME} {ds : List D} {x : D} (he : e = .lc (.name 1) false [(.var 0)] none (.call "_law_copy" [(.var 1)])) (hx : x = .list ds ∨ x = .tuple ds) (hl : ds.length ≤ 1000) (ih : ∀ d ∈ ds, c.call "_law_copy" [.val d] = .ok (copyO d) [.val d]) :
    evE c e [some (.val x), none, none, none] = .ok (.vl (.lst ds)) [some (.val x), none, none, none] := by
  subst he
  have e0 : ∀ cond : Rho → R (Option D), evI c false [(.var 0)] (lcAll (.name 1) cond) [some (.val x), none, none, none] = lcAll (.name 1) cond ds [some (.val x), none, none, none] := fun cond => by
    rcases hx with rfl | rfl <;> simp
  have e := lc_map (t := .name 1) (cond := evC c none (evE c (.call "_law_copy" [(.var 1)]))) (ρ := [some (.val x), none, none, none]) (l := ds) (ds := ds) (e := id) (g := fun d => some d) (by simp) rfl rfl (by rw [sizeLine_eq]; omega) fun a ha => by
    have := ih a ha
    simp [E_lcTurn_1, this]
  rw [fmap_some] at e
  simp at e
  exact (e0 _).trans e
theorem copy_turn {c : SW.Ctx} {m pre : KV} {k : Str} {v : D} {o1 : Option O} (hg : getS m k = some v) (hp : pre.length < sizeLine) (ih : c.call "_law_copy" [.val v] = .ok (copyO v) [.val v]) :
    evSs c 1 [.sub 2 (.var 3) (.call "_law_copy" [(.idx (.var 0) (.var 3))])] [some (.val (.dict (kvD m))), o1, some (.dct (kvD pre)), some (.val (.str k))] = .nx [some (.val (.dict (kvD m))), o1, some (.dct (kvD (putS pre k v))), some (.val (.str k))] := by
  have e1 : fIdx (.dict (kvD m)) (.str k) [some (.val (.dict (kvD m))), o1, some (.dct (kvD pre)), some (.val (.str k))] = .ok (.vl (.val v)) [some (.val (.dict (kvD m))), o1, some (.dct (kvD pre)), some (.val (.str k))] := by
    unfold fIdx
    rw [idxD_kv, hg]
    rfl
  have e2 : subS 2 (.str k) v [some (.val (.dict (kvD m))), o1, some (.dct (kvD pre)), some (.val (.str k))] = .nx [some (.val (.dict (kvD m))), o1, some (.dct (kvD (putS pre k v))), some (.val (.str k))] := by
    have := subO_kv (m := pre) (k := k) (v := v) hp
    simp only [subS, slot, List.getElem?_cons_succ, List.getElem?_cons_zero, Option.join_some, this]
    rfl
  simp [-E_fIdx_1, -E_subS_1, e1, e2, ih]
theorem copy_loop {c : SW.Ctx} {m : KV} {o1 : Option O} (nd : (m.map (·.1)).Nodup) (hl : m.length ≤ 1000) (ih : ∀ p ∈ m, c.call "_law_copy" [.val p.2] = .ok (copyO p.2) [.val p.2]) : ∀ (rest pre : KV) (o3 : Option O), m = pre ++ rest →
    ∃ o3', foL (.name 3) (evSs c 1 [.sub 2 (.var 3) (.call "_law_copy" [(.idx (.var 0) (.var 3))])]) (rest.map fun p => .str p.1) [some (.val (.dict (kvD m))), o1, some (.dct (kvD pre)), o3] = .nx [some (.val (.dict (kvD m))), o1, some (.dct (kvD m)), o3']
  | [], pre, o3, e => by
    rw [List.append_nil] at e
    subst e
    exact ⟨o3, rfl⟩
  | p :: rest, pre, o3, e => by
    have hp : p ∈ m := by rw [e]; simp
    have hg : getS m p.1 = some p.2 := getS_mem nd hp
    have hn : p.1 ∉ pre.map (·.1) := by
      rw [e, List.map_append, List.nodup_append] at nd
      intro q
      exact nd.2.2 _ q _ (by simp) rfl
    have ep := putS_new pre p.1 p.2 hn
    have hl' : pre.length < sizeLine := by
      rw [e, List.length_append] at hl
      rw [sizeLine_eq]
      omega
    obtain ⟨o3', e3⟩ := copy_loop nd hl ih rest (pre ++ [p]) (some (.val (.str p.1))) (by rw [e, List.append_assoc]; rfl)
    refine ⟨o3', ?_⟩
    rw [List.map_cons]
    refine (foL_nx rfl (copy_turn hg hl' (ih p hp))).trans ?_
    rw [ep]
    exact e3
include hc
theorem law_copy : ∀ (k : Nat) {n : Nat} {d : D}, okD k d = true → (cx (n + k + 1)).call "_law_copy" [.val d] = .ok (copyO d) [.val d] := by
  intro k
  have atom : ∀ {n : Nat} {d : D}, (tyName d == "list") = false → (tyName d == "tuple") = false → (tyName d == "dict") = false → (cx (n + 1)).call "_law_copy" [.val d] = .ok (copyO d) [.val d] := by
    intro n d h1 h2 h3
    rw [hc]
    have : copyO d = .val d := by
      cases d with
      | list _ => cases h1
      | dict _ => cases h3
      | _ => rfl
    simp [f__law_copy, h1, h2, h3, this]
  induction k with
  | zero =>
    intro n d h
    cases d with
    | list _ => cases h
    | tuple _ => cases h
    | dict _ => cases h
    | _ => exact atom rfl rfl rfl
  | succ k ih =>
    intro n d h
    cases d with
    | list ds =>
      have h : (ds.all (okD k) && decide (ds.length ≤ 1000)) = true := h
      rw [Bool.and_eq_true, List.all_eq_true, decide_eq_true_eq] at h
      rw [show n + (k + 1) + 1 = (n + k + 1) + 1 from by omega, hc]
      have key := lc_copy (c := cx (n + k + 1)) (e := lc__law_copy_1) rfl (.inl rfl) h.2 fun d hd => ih (h.1 d hd)
      simp [f__law_copy, key, copyO]
    | tuple ds =>
      have h : (ds.all (okD k) && decide (ds.length ≤ 1000)) = true := h
      rw [Bool.and_eq_true, List.all_eq_true, decide_eq_true_eq] at h
      rw [show n + (k + 1) + 1 = (n + k + 1) + 1 from by omega, hc]
      have key := lc_copy (c := cx (n + k + 1)) (e := lc__law_copy_2) rfl (.inr rfl) h.2 fun d hd => ih (h.1 d hd)
      simp [f__law_copy, key, copyO]
    | dict kvs =>
      obtain ⟨m, rfl, nd, hl, hm⟩ := okD_dict h
      rw [show n + (k + 1) + 1 = (n + k + 1) + 1 from by omega, hc]
      obtain ⟨o3, e3⟩ := copy_loop (c := cx (n + k + 1)) (o1 := none) nd hl (fun p hp => ih (hm p hp).2) m [] none rfl
      have e4 : evS (cx (n + k + 1)) 1 fo__law_copy_3 [some (.val (.dict (kvD m))), none, some (.dct []), none] = .nx [some (.val (.dict (kvD m))), none, some (.dct (kvD m)), o3] := by
        refine Eq.trans ?_ e3
        show forI (cx (n + k + 1)) false [(.var 0)] (foL (.name 3) (evSs (cx (n + k + 1)) 1 [.sub 2 (.var 3) (.call "_law_copy" [(.idx (.var 0) (.var 3))])])) _ = _
        generalize evSs (cx (n + k + 1)) 1 [.sub 2 (.var 3) (.call "_law_copy" [(.idx (.var 0) (.var 3))])] = b
        have := items_kvD m
        simp [-E_items_4, this, kvD_nil]
      simp [f__law_copy, e4, copyO]
    | _ => exact atom rfl rfl rfl
end
end Std

set_option Elab.async false
set_option linter.all false
set_option maxRecDepth 100000
set_option maxHeartbeats 8000000
namespace Std
open PySem PySem.Spec L2 SW
open PyProof.Rows hiding St
def seqO (o : O) (ds : List SW.D) : Prop := o = .val (.list ds) ∨ o = .val (.tuple ds) ∨ o = .lst ds
theorem lc_same {c : SW.Ctx} {ox oy : O} {ds : List SW.D} {u r : Option O} (hx : seqO ox ds) (hy : seqO oy ds) (hl : ds.length ≤ 1000) (ih : ∀ d ∈ ds, c.call "_law_same" [.val d, .val d] = .ok (.val (.bool true)) [.val d, .val d]) :
    evE c lc__law_same_3 [some ox, some oy, u, r, none] = .ok (.vl (.lst (ds.map fun _ => .bool true))) [some ox, some oy, u, r, none] := by
  have sm : smallI (ds.length : Int) = true := decide_eq_true (by omega)
  have e0 : ∀ cond : Rho → R (Option SW.D), evI c true [(.blt .len (.var 1))] (lcAll (.name 4) cond) [some ox, some oy, u, r, none] = lcAll (.name 4) cond ((List.range ds.length).map fun (k : Nat) => .int (k : Int)) [some ox, some oy, u, r, none] := fun cond => by
    rcases hy with rfl | rfl | rfl <;> simp [sm, rngL]
  have e := lc_map (t := .name 4) (cond := evC c none (evE c (.call "_law_same" [(.idx (.var 0) (.var 4)), (.idx (.var 1) (.var 4))]))) (ρ := [some ox, some oy, u, r, none]) (l := List.range ds.length) (ds := (List.range ds.length).map fun (k : Nat) => .int (k : Int)) (e := fun (k : Nat) => .int (k : Int)) (g := fun _ => some (.bool true)) rfl rfl rfl (by rw [sizeLine_eq, List.length_range]; omega) fun i hi => by
    have hi := List.mem_range.mp hi
    have key := ih ds[i] (List.getElem_mem _)
    have ai : atI ds (i : Int) = some ds[i] := by rw [atI_nat' _ _ hi]; simp [hi]
    rcases hx with rfl | rfl | rfl <;> rcases hy with rfl | rfl | rfl <;> simp [E_lcTurn_1, ai, key]
  rw [fmap_some] at e
  refine (e0 _).trans (e.trans ?_)
  rw [show (List.range ds.length).map (fun (_ : Nat) => PyData.bool true) = ds.map fun _ => .bool true from by simp [List.map_const']]
theorem all_true {α : Type} (ds : List α) : boolsOf (ds.map fun _ => PyData.bool true) = some (ds.map fun _ => true) := boolsOf_map (fun _ => true) ds
theorem all_true' {α : Type} (ds : List α) : (ds.map fun _ => true).all id = true := by simp
theorem lc_keys {c : SW.Ctx} {m : KV} {a3 a4 : Option O} (nd : (m.map (·.1)).Nodup) (hl : m.length ≤ 1000) :
    evE c lc__law_same_1 [some (.val (.dict (kvD m))), some (.val (.dict (kvD m))), none, a3, a4] = .ok (.vl (.lst (m.map fun _ => .bool true))) [some (.val (.dict (kvD m))), some (.val (.dict (kvD m))), none, a3, a4] := by
  have e0 : ∀ cond : Rho → R (Option SW.D), evI c false [(.var 1)] (lcAll (.name 2) cond) [some (.val (.dict (kvD m))), some (.val (.dict (kvD m))), none, a3, a4] = lcAll (.name 2) cond (m.map fun p => .str p.1) [some (.val (.dict (kvD m))), some (.val (.dict (kvD m))), none, a3, a4] := fun cond => by
    have := items_kvD m
    simp [-E_items_4, this]
  have e := lc_map (t := .name 2) (cond := evC c none (evE c (.cmp .In (.var 2) (.var 0)))) (ρ := [some (.val (.dict (kvD m))), some (.val (.dict (kvD m))), none, a3, a4]) (l := m) (ds := m.map fun p => .str p.1) (e := fun p => .str p.1) (g := fun _ => some (.bool true)) rfl rfl rfl (by rw [sizeLine_eq]; omega) fun p hp => by
    have h1 : cmpD .In (.str p.1) (.dict (kvD m)) = some true := by
      simp only [cmpD]
      rw [inD_kv]
      exact congrArg some (List.any_eq_true.mpr ⟨p, hp, by simp⟩)
    have h2 : ∀ ρ, fCmp .In (.str p.1) (.dict (kvD m)) ρ = .ok (.vl (.val (.bool true))) ρ := fun ρ => by unfold fCmp; rw [h1]; rfl
    simp [-E_fCmp_1, E_lcTurn_1, h2]
  rw [fmap_some] at e
  exact (e0 _).trans e
theorem lc_vals {c : SW.Ctx} {m : KV} {a3 a4 : Option O} (nd : (m.map (·.1)).Nodup) (hl : m.length ≤ 1000) (ih : ∀ p ∈ m, c.call "_law_same" [.val p.2, .val p.2] = .ok (.val (.bool true)) [.val p.2, .val p.2]) :
    evE c lc__law_same_2 [some (.val (.dict (kvD m))), some (.val (.dict (kvD m))), none, a3, a4] = .ok (.vl (.lst (m.map fun _ => .bool true))) [some (.val (.dict (kvD m))), some (.val (.dict (kvD m))), none, a3, a4] := by
  have e0 : ∀ cond : Rho → R (Option SW.D), evI c false [(.var 1)] (lcAll (.name 2) cond) [some (.val (.dict (kvD m))), some (.val (.dict (kvD m))), none, a3, a4] = lcAll (.name 2) cond (m.map fun p => .str p.1) [some (.val (.dict (kvD m))), some (.val (.dict (kvD m))), none, a3, a4] := fun cond => by
    have := items_kvD m
    simp [-E_items_4, this]
  have e := lc_map (t := .name 2) (cond := evC c none (evE c (.call "_law_same" [(.idx (.var 0) (.var 2)), (.idx (.var 1) (.var 2))]))) (ρ := [some (.val (.dict (kvD m))), some (.val (.dict (kvD m))), none, a3, a4]) (l := m) (ds := m.map fun p => .str p.1) (e := fun p => .str p.1) (g := fun _ => some (.bool true)) rfl rfl rfl (by rw [sizeLine_eq]; omega) fun p hp => by
    have h1 : getS m p.1 = some p.2 := getS_mem nd hp
    have h2 : ∀ ρ, fIdx (.dict (kvD m)) (.str p.1) ρ = .ok (.vl (.val p.2)) ρ := fun ρ => by unfold fIdx; rw [idxD_kv, h1]; rfl
    have := ih p hp
    simp [-E_fIdx_1, E_lcTurn_1, h2, this]
  rw [fmap_some] at e
  exact (e0 _).trans e
section
variable {cx : Nat → SW.Ctx} (hs : ∀ n os, (cx (n + 1)).call "_law_same" os = runFn (cx n) f__law_same os)
include hs
theorem law_same_seq {n : Nat} {ox oy : O} {ds : List SW.D} (hx : ox = .val (.list ds) ∨ ox = .lst ds) (hy : oy = .val (.list ds) ∨ oy = .lst ds) (hl : ds.length ≤ 1000) (ih : ∀ d ∈ ds, (cx n).call "_law_same" [.val d, .val d] = .ok (.val (.bool true)) [.val d, .val d]) :
    (cx (n + 1)).call "_law_same" [ox, oy] = .ok (.val (.bool true)) [ox, oy] := by
  have key := lc_same (c := cx n) (u := none) (r := some (.val (.bool true))) (ox := ox) (oy := oy) (by rcases hx with rfl | rfl <;> simp [seqO]) (by rcases hy with rfl | rfl <;> simp [seqO]) hl ih
  have ha := all_true ds
  have sl : SeqAt.shaped (.int (ds.length : Int)) = true := rfl
  rw [hs]
  rcases hx with rfl | rfl <;> rcases hy with rfl | rfl <;> simp [f__law_same, key, ha]
theorem law_same_tup {n : Nat} {ds : List SW.D} (hl : ds.length ≤ 1000) (ih : ∀ d ∈ ds, (cx n).call "_law_same" [.val d, .val d] = .ok (.val (.bool true)) [.val d, .val d]) :
    (cx (n + 1)).call "_law_same" [.val (.tuple ds), .val (.tuple ds)] = .ok (.val (.bool true)) [.val (.tuple ds), .val (.tuple ds)] := by
  have key := lc_same (c := cx n) (u := none) (r := some (.val (.bool true))) (ox := .val (.tuple ds)) (oy := .val (.tuple ds)) (by simp [seqO]) (by simp [seqO]) hl ih
  have ha := all_true ds
  rw [hs]
  simp [f__law_same, key, ha]
theorem law_same_dict {n : Nat} {m : KV} (nd : (m.map (·.1)).Nodup) (hl : m.length ≤ 1000) (ih : ∀ p ∈ m, (cx n).call "_law_same" [.val p.2, .val p.2] = .ok (.val (.bool true)) [.val p.2, .val p.2]) :
    (cx (n + 1)).call "_law_same" [.val (.dict (kvD m)), .val (.dict (kvD m))] = .ok (.val (.bool true)) [.val (.dict (kvD m)), .val (.dict (kvD m))] := by
  have k1 := lc_keys (c := cx n) (a3 := none) (a4 := none) nd hl
  have k2 := lc_vals (c := cx n) (a3 := none) (a4 := none) nd hl ih
  have ha := all_true m
  have hb : (List.all m fun _ => true) = true := by simp
  rw [hs]
  simp [f__law_same, k1, k2, ha, hb]
theorem law_same : ∀ (k : Nat) {n : Nat} {d : SW.D}, okD k d = true → (cx (n + k + 1)).call "_law_same" [.val d, .val d] = .ok (.val (.bool true)) [.val d, .val d] := by
  intro k
  have atom : ∀ {n k : Nat} {d : SW.D}, okD k d = true → (tyName d == "list") = false → (tyName d == "tuple") = false → (tyName d == "dict") = false → (cx (n + 1)).call "_law_same" [.val d, .val d] = .ok (.val (.bool true)) [.val d, .val d] := by
    intro n k d h h1 h2 h3
    rw [hs]
    cases d with
    | list _ => cases h1
    | tuple _ => cases h2
    | dict _ => cases h3
    | none => simp [f__law_same]
    | bool b => cases b <;> simp [f__law_same, PyData.eqv]
    | int i => simp [f__law_same]
    | str s =>
      have h : (decide (s.length ≤ 100) && PyData.strOk s) = true := by cases k <;> exact h
      have h := (Bool.and_eq_true_iff.mp h).2
      simp [f__law_same, h]
  induction k with
  | zero =>
    intro n d h
    cases d with
    | list _ => cases h
    | tuple _ => cases h
    | dict _ => cases h
    | _ => exact atom h rfl rfl rfl
  | succ k ih =>
    intro n d h
    cases d with
    | list ds =>
      have h : (ds.all (okD k) && decide (ds.length ≤ 1000)) = true := h
      rw [Bool.and_eq_true, List.all_eq_true, decide_eq_true_eq] at h
      exact law_same_seq hs (n := n + k + 1) (.inl rfl) (.inl rfl) h.2 fun d hd => ih (h.1 d hd)
    | tuple ds =>
      have h : (ds.all (okD k) && decide (ds.length ≤ 1000)) = true := h
      rw [Bool.and_eq_true, List.all_eq_true, decide_eq_true_eq] at h
      exact law_same_tup hs (n := n + k + 1) h.2 fun d hd => ih (h.1 d hd)
    | dict kvs =>
      obtain ⟨m, rfl, nd, hl, hm⟩ := okD_dict h
      exact law_same_dict hs (n := n + k + 1) nd hl fun p hp => ih (hm p hp).2
    | _ => exact atom h rfl rfl rfl
theorem law_same_bool {n : Nat} (b c : Bool) : (cx (n + 1)).call "_law_same" [.val (.bool b), .val (.bool c)] = .ok (.val (.bool (b == c))) [.val (.bool b), .val (.bool c)] := by
  rw [hs]
  cases b <;> cases c <;> simp [f__law_same, PyData.eqv]
end
/-! ### without dicts: what may be compared -/
def okN : Nat → D → Bool
  | _, .none => true
  | _, .bool _ => true
  | _, .int _ => true
  | _, .str s => okS s
  | 0, _ => false
  | k + 1, .list ds => ds.all (okN k) && decide (ds.length ≤ 1000)
  | k + 1, .tuple ds => ds.all (okN k) && decide (ds.length ≤ 1000)
  | _ + 1, .dict _ => false
theorem okN_okD : ∀ {k : Nat} {d : D}, okN k d = true → okD k d = true
  | k, .none, _ => by cases k <;> rfl
  | k, .bool _, _ => by cases k <;> rfl
  | k, .int _, _ => by cases k <;> rfl
  | k, .str s, h => by
    have h : okS s = true := by cases k <;> exact h
    cases k <;> exact h
  | 0, .list _, h => by cases h
  | 0, .tuple _, h => by cases h
  | 0, .dict _, h => by cases h
  | k + 1, .dict _, h => by cases h
  | k + 1, .list ds, h => by
    have h : (ds.all (okN k) && decide (ds.length ≤ 1000)) = true := h
    show (ds.all (okD k) && decide (ds.length ≤ 1000)) = true
    rw [Bool.and_eq_true, List.all_eq_true] at h ⊢
    exact ⟨fun d hd => okN_okD (h.1 d hd), h.2⟩
  | k + 1, .tuple ds, h => by
    have h : (ds.all (okN k) && decide (ds.length ≤ 1000)) = true := h
    show (ds.all (okD k) && decide (ds.length ≤ 1000)) = true
    rw [Bool.and_eq_true, List.all_eq_true] at h ⊢
    exact ⟨fun d hd => okN_okD (h.1 d hd), h.2⟩
theorem okN_fit : ∀ {k : Nat} {d : D}, okN k d = true → d.canLay0 = true ∧ d.depth ≤ k
  | k, .none, _ => ⟨rfl, by rw [PyData.depth]; omega⟩
  | k, .bool _, _ => ⟨rfl, by rw [PyData.depth]; omega⟩
  | k, .int _, _ => ⟨rfl, by rw [PyData.depth]; omega⟩
  | k, .str s, h => by
    have h : (decide (s.length ≤ 100) && PyData.strOk s) = true := by cases k <;> exact h
    rw [Bool.and_eq_true] at h
    exact ⟨h.2, by rw [PyData.depth]; omega⟩
  | 0, .list _, h => by cases h
  | 0, .tuple _, h => by cases h
  | k + 1, .list ds, h => by
    have h : (ds.all (okN k) && decide (ds.length ≤ 1000)) = true := h
    rw [Bool.and_eq_true, List.all_eq_true] at h
    refine ⟨by rw [PyData.canLay0]; exact canAll fun d hd => (okN_fit (h.1 d hd)).1, ?_⟩
    rw [PyData.depth]
    exact Nat.succ_le_succ (depthAll_le fun d hd => (okN_fit (h.1 d hd)).2)
  | k + 1, .tuple ds, h => by
    have h : (ds.all (okN k) && decide (ds.length ≤ 1000)) = true := h
    rw [Bool.and_eq_true, List.all_eq_true] at h
    refine ⟨by rw [PyData.canLay0]; exact canAll fun d hd => (okN_fit (h.1 d hd)).1, ?_⟩
    rw [PyData.depth]
    exact Nat.succ_le_succ (depthAll_le fun d hd => (okN_fit (h.1 d hd)).2)
  | 0, .dict _, h => by cases h
  | _ + 1, .dict _, h => by cases h
theorem okN_shaped {k : Nat} {d : D} (h : okN k d = true) (hk : k ≤ 60) : SeqAt.shaped d = true := by
  obtain ⟨h1, h2⟩ := okN_fit h
  unfold SeqAt.shaped
  rw [h1, decide_eq_true (by omega)]
  rfl
theorem shaped_list {k : Nat} {ds : List SW.D} (h : ∀ d ∈ ds, okN k d = true) (hk : k ≤ 59) : SeqAt.shaped (.list ds) = true := by
  unfold SeqAt.shaped
  rw [PyData.canLay0, PyData.depth, canAll fun d hd => (okN_fit (h d hd)).1, decide_eq_true (Nat.le_trans (Nat.succ_le_succ (depthAll_le fun d hd => (okN_fit (h d hd)).2)) (by omega))]
  rfl
theorem shaped_tuple {k : Nat} {ds : List SW.D} (h : ∀ d ∈ ds, okN k d = true) (hk : k ≤ 59) : SeqAt.shaped (.tuple ds) = true := by
  unfold SeqAt.shaped
  rw [PyData.canLay0, PyData.depth, canAll fun d hd => (okN_fit (h d hd)).1, decide_eq_true (Nat.le_trans (Nat.succ_le_succ (depthAll_le fun d hd => (okN_fit (h d hd)).2)) (by omega))]
  rfl
end Std

set_option Elab.async false
set_option linter.all false
set_option maxRecDepth 100000
set_option maxHeartbeats 8000000
namespace Std
open PySem PySem.Spec L2 SW
open PyProof.Rows hiding St
theorem evI_val {c : SW.Ctx} {e : ME} {f : List D → Rho → R SW.A} {ρ ρ1 ρ' : Rho} {x : SW.A} {d : D} {ds : List D} (h1 : evE c e ρ = .ok x ρ1) (h2 : frz x ρ1 = some (d, ρ')) (h3 : items d = some ds) : evI c false [e] f ρ = f ds ρ' := by
  show kFrz (fItems f) (evE c e ρ) = _
  rw [h1]
  show (match frz x ρ1 with
    | some (d, ρ') => fItems f d ρ'
    | none => .bad) = _
  rw [h2]
  show (match items d with
    | some ds => f ds ρ'
    | none => .bad) = _
  rw [h3]
theorem evI_rng {c : SW.Ctx} {e : ME} {es : List ME} {f : List D → Rho → R SW.A} {ρ ρ' : Rho} {ds is : List D} (h1 : evVs c (e :: es) ρ = .ok ds ρ') (h2 : rngD ds = some is) : evI c true (e :: es) f ρ = f is ρ' := by
  show kRng f (evVs c (e :: es) ρ) = _
  rw [h1]
  show (match rngD ds with
    | some is => f is ρ'
    | none => .bad) = _
  rw [h2]
theorem for_val {c : SW.Ctx} {np : Nat} {t : MT} {e : ME} {b : List MS} {ρ ρ1 ρ' : Rho} {x : SW.A} {d : D} {ds : List D} (h1 : evE c e ρ = .ok x ρ1) (h2 : frz x ρ1 = some (d, ρ')) (h3 : items d = some ds) : evS c np (.forS t false [e] b) ρ = foL t (evSs c np b) ds ρ' := by
  show kFor (foL t (evSs c np b)) (evE c e ρ) = _
  generalize evSs c np b = g
  rw [h1]
  show (match frz x ρ1 with
    | some (d, ρ') => (match items d with
      | some ds => foL t g ds ρ'
      | none => .bad)
    | none => .bad) = _
  rw [h2]
  show (match items d with
      | some ds => foL t g ds ρ'
      | none => .bad) = _
  rw [h3]
theorem for_rng {c : SW.Ctx} {np : Nat} {t : MT} {its : List ME} {b : List MS} {ρ ρ' : Rho} {ds is : List D} (h1 : evVs c its ρ = .ok ds ρ') (h2 : rngD ds = some is) : evS c np (.forS t true its b) ρ = foL t (evSs c np b) is ρ' := by
  show kForR (foL t (evSs c np b)) (evVs c its ρ) = _
  generalize evSs c np b = g
  rw [h1]
  show (match rngD ds with
    | some is => foL t g is ρ'
    | none => .bad) = _
  rw [h2]
theorem lc_turns {t : MT} {cond : Rho → R (Option D)} {d : D} {ρ ρ1 : Rho} (h : bindT t (.val d) ρ = some ρ1) {x : Option D} {ρ2 : Rho} (h2 : cond ρ1 = .ok x ρ2) : lcTurn t cond d ρ = .ok x (wipeR ρ2 t.slots) := by
  rw [E_lcTurn_1, h]
  dsimp only
  rw [h2]
/-- the state goes along -/
theorem lcL_st {α β γ : Type} {f : SW.D → Rho → R (Option SW.D)} {e : α → SW.D} {E : β → SW.D} {P : γ → Prop} {Q : α → Option β → Prop} {ρ : γ → Rho} : ∀ {l : List α} {acc : List SW.D} {ds : γ},
    (∀ a ∈ l, ∀ ds, P ds → ∃ ds' u, f (e a) (ρ ds) = .ok (u.map E) (ρ ds') ∧ P ds' ∧ Q a u) → P ds → acc.length + l.length ≤ sizeLine →
    ∃ (ds' : γ) (us : List (α × Option β)), lcL f (l.map e) acc (ρ ds) = .ok (acc ++ (us.filterMap (·.2)).map E) (ρ ds') ∧ P ds' ∧ us.map (·.1) = l ∧ ∀ q ∈ us, Q q.1 q.2
  | [], acc, ds, _, p, _ => ⟨ds, [], by simp [lcL], p, rfl, by simp⟩
  | a :: l, acc, ds, h, p, hl => by
    rw [List.length_cons] at hl
    obtain ⟨d1, u, e1, p1, q1⟩ := h a (by simp) ds p
    have h2 := fun b (hb : b ∈ l) => h b (by simp [hb])
    rw [List.map_cons]
    simp only [lcL, e1]
    cases u with
    | none =>
      obtain ⟨d2, us, e2, p2, l2, q2⟩ := lcL_st (acc := acc) h2 p1 (by omega)
      refine ⟨d2, (a, none) :: us, ?_, p2, by rw [List.map_cons, l2], ?_⟩
      · simp only [Option.map_none, List.filterMap_cons]
        exact e2
      · intro q hq
        rcases List.mem_cons.mp hq with rfl | hq
        · exact q1
        · exact q2 q hq
    | some x =>
      obtain ⟨d2, us, e2, p2, l2, q2⟩ := lcL_st (acc := acc ++ [E x]) h2 p1 (by rw [List.length_append, List.length_singleton]; omega)
      refine ⟨d2, (a, some x) :: us, ?_, p2, by rw [List.map_cons, l2], ?_⟩
      · simp only [Option.map_some, List.filterMap_cons]
        rw [if_pos (by omega), e2]
        simp
      · intro q hq
        rcases List.mem_cons.mp hq with rfl | hq
        · exact q1
        · exact q2 q hq
end Std

set_option Elab.async false
set_option linter.all false
set_option maxRecDepth 100000
set_option maxHeartbeats 8000000
/-! turns of loops that leave, while loops -/
namespace SW
open PySem
section
variable {r0 r1 r2 r3 r4 r5 r6 r7 r8 r9 r10 r11 r12 r13 r14 r15 r16 r17 r18 r19 r20 r21 r22 r23 r24 r25 : Option O} {ρ : Rho}
@[simp] theorem sl15 : slot (r0 :: r1 :: r2 :: r3 :: r4 :: r5 :: r6 :: r7 :: r8 :: r9 :: r10 :: r11 :: r12 :: r13 :: r14 :: r15 :: ρ) 15 = r15 := rfl
@[simp] theorem sl16 : slot (r0 :: r1 :: r2 :: r3 :: r4 :: r5 :: r6 :: r7 :: r8 :: r9 :: r10 :: r11 :: r12 :: r13 :: r14 :: r15 :: r16 :: ρ) 16 = r16 := rfl
@[simp] theorem sl17 : slot (r0 :: r1 :: r2 :: r3 :: r4 :: r5 :: r6 :: r7 :: r8 :: r9 :: r10 :: r11 :: r12 :: r13 :: r14 :: r15 :: r16 :: r17 :: ρ) 17 = r17 := rfl
@[simp] theorem sl18 : slot (r0 :: r1 :: r2 :: r3 :: r4 :: r5 :: r6 :: r7 :: r8 :: r9 :: r10 :: r11 :: r12 :: r13 :: r14 :: r15 :: r16 :: r17 :: r18 :: ρ) 18 = r18 := rfl
@[simp] theorem sl19 : slot (r0 :: r1 :: r2 :: r3 :: r4 :: r5 :: r6 :: r7 :: r8 :: r9 :: r10 :: r11 :: r12 :: r13 :: r14 :: r15 :: r16 :: r17 :: r18 :: r19 :: ρ) 19 = r19 := rfl
@[simp] theorem sl20 : slot (r0 :: r1 :: r2 :: r3 :: r4 :: r5 :: r6 :: r7 :: r8 :: r9 :: r10 :: r11 :: r12 :: r13 :: r14 :: r15 :: r16 :: r17 :: r18 :: r19 :: r20 :: ρ) 20 = r20 := rfl
@[simp] theorem sl21 : slot (r0 :: r1 :: r2 :: r3 :: r4 :: r5 :: r6 :: r7 :: r8 :: r9 :: r10 :: r11 :: r12 :: r13 :: r14 :: r15 :: r16 :: r17 :: r18 :: r19 :: r20 :: r21 :: ρ) 21 = r21 := rfl
@[simp] theorem sl22 : slot (r0 :: r1 :: r2 :: r3 :: r4 :: r5 :: r6 :: r7 :: r8 :: r9 :: r10 :: r11 :: r12 :: r13 :: r14 :: r15 :: r16 :: r17 :: r18 :: r19 :: r20 :: r21 :: r22 :: ρ) 22 = r22 := rfl
@[simp] theorem sl23 : slot (r0 :: r1 :: r2 :: r3 :: r4 :: r5 :: r6 :: r7 :: r8 :: r9 :: r10 :: r11 :: r12 :: r13 :: r14 :: r15 :: r16 :: r17 :: r18 :: r19 :: r20 :: r21 :: r22 :: r23 :: ρ) 23 = r23 := rfl
@[simp] theorem sl24 : slot (r0 :: r1 :: r2 :: r3 :: r4 :: r5 :: r6 :: r7 :: r8 :: r9 :: r10 :: r11 :: r12 :: r13 :: r14 :: r15 :: r16 :: r17 :: r18 :: r19 :: r20 :: r21 :: r22 :: r23 :: r24 :: ρ) 24 = r24 := rfl
end
end SW
namespace Std
open PySem PySem.Spec L2 SW
open PyProof.Rows hiding St
theorem foL_exc {t : MT} {b : Rho → S} {d : PyData} {ds : List PyData} {ρ ρ' ρ'' : Rho} {e : Exn} (h1 : bindT t (.val d) ρ = some ρ') (h2 : b ρ' = .exc e ρ'') : foL t b (d :: ds) ρ = .exc e ρ'' := by
  show (match bindT t (.val d) ρ with
    | some ρ' => kLoop (foL t b ds) (b ρ')
    | none => .bad) = _
  rw [h1]
  show kLoop (foL t b ds) (b ρ') = _
  rw [h2]
  rfl
theorem foL_rt {t : MT} {b : Rho → S} {d : PyData} {ds : List PyData} {ρ ρ' ρ'' : Rho} {x : O} (h1 : bindT t (.val d) ρ = some ρ') (h2 : b ρ' = .rt x ρ'') : foL t b (d :: ds) ρ = .rt x ρ'' := by
  show (match bindT t (.val d) ρ with
    | some ρ' => kLoop (foL t b ds) (b ρ')
    | none => .bad) = _
  rw [h1]
  show kLoop (foL t b ds) (b ρ') = _
  rw [h2]
  rfl
theorem seq_rt {c : SW.Ctx} {np : Nat} {s : MS} {ss : List MS} {ρ ρ' : Rho} {x : O} (h : evS c np s ρ = .rt x ρ') : evSs c np (s :: ss) ρ = .rt x ρ' := by
  rw [evSs.eq_2]
  show kSeq (evSs c np ss) (evS c np s ρ) = _
  rw [h]
  rfl
theorem seq_exc {c : SW.Ctx} {np : Nat} {s : MS} {ss : List MS} {ρ ρ' : Rho} {x : Exn} (h : evS c np s ρ = .exc x ρ') : evSs c np (s :: ss) ρ = .exc x ρ' := by
  rw [evSs.eq_2]
  show kSeq (evSs c np ss) (evS c np s ρ) = _
  rw [h]
  rfl
theorem whL_tt {t : Rho → R SW.A} {b : Rho → S} {m : Nat} {ρ ρ1 ρ' : Rho} (h1 : t ρ = .ok (.vl (.val (.bool true))) ρ1) (h2 : b ρ1 = .nx ρ') : whL t b (m + 1) ρ = whL t b m ρ' := by
  show kTstS (fun ρ' => kLoop (whL t b m) (b ρ')) .nx (t ρ) = _
  rw [h1]
  show kLoop (whL t b m) (b ρ1) = _
  rw [h2]
  rfl
theorem whL_rt {t : Rho → R SW.A} {b : Rho → S} {m : Nat} {ρ ρ1 ρ' : Rho} {x : O} (h1 : t ρ = .ok (.vl (.val (.bool true))) ρ1) (h2 : b ρ1 = .rt x ρ') : whL t b (m + 1) ρ = .rt x ρ' := by
  show kTstS (fun ρ' => kLoop (whL t b m) (b ρ')) .nx (t ρ) = _
  rw [h1]
  show kLoop (whL t b m) (b ρ1) = _
  rw [h2]
  rfl
theorem whL_ff {t : Rho → R SW.A} {b : Rho → S} {m : Nat} {ρ ρ1 : Rho} (h1 : t ρ = .ok (.vl (.val (.bool false))) ρ1) : whL t b (m + 1) ρ = .nx ρ1 := by
  show kTstS (fun ρ' => kLoop (whL t b m) (b ρ')) .nx (t ρ) = _
  rw [h1]
  rfl
theorem filt_map {α β : Type} (p : α → Bool) (f : α → β) : ∀ l : List α, l.filterMap (fun x => if p x = true then some (f x) else none) = (l.filter p).map f
  | [] => rfl
  | x :: l => by
    rw [List.filterMap_cons, List.filter_cons]
    cases h : p x with
    | true => simp [filt_map p f l]
    | false => simp [filt_map p f l]
theorem find_cons {α : Type} (p : α → Bool) (x : α) (l : List α) : (x :: l).find? p = if p x = true then some x else l.find? p := by
  rw [List.find?_cons]; cases p x <;> rfl
end Std

set_option Elab.async false
set_option linter.all false
set_option maxRecDepth 100000
set_option maxHeartbeats 8000000
/-! what holds behind a run: nothing of its states is to be written down -/
namespace SW
open PySem PySem.Spec L2
open PyProof.Rows hiding St
def PostD (s : S) (N : Rho → Prop) (R : O → Rho → Prop) (E : Exn → Prop) : Prop := match s with
  | .nx ρ => N ρ
  | .rt o ρ => R o ρ
  | .exc e _ => E e
  | _ => False
/-- a structure, so that nothing runs it by itself -/
structure Post (s : S) (N : Rho → Prop) (R : O → Rho → Prop) (E : Exn → Prop) : Prop where
  out : PostD s N R E
@[simp] theorem post_nx {ρ : Rho} {N R E} : Post (.nx ρ) N R E = N ρ := propext ⟨fun h => h.out, fun h => ⟨h⟩⟩
@[simp] theorem post_rt {ρ : Rho} {o : O} {N R E} : Post (.rt o ρ) N R E = R o ρ := propext ⟨fun h => h.out, fun h => ⟨h⟩⟩
@[simp] theorem post_exc {ρ : Rho} {e : Exn} {N R E} : Post (.exc e ρ) N R E = E e := propext ⟨fun h => h.out, fun h => ⟨h⟩⟩
@[simp] theorem post_cond {b : Bool} {x y : S} {N R E} : Post (bif b then x else y) N R E = bif b then Post x N R E else Post y N R E := by cases b <;> rfl
theorem Post.mono {s : S} {N N' : Rho → Prop} {R R' : O → Rho → Prop} {E E' : Exn → Prop} (h : Post s N R E) (hn : ∀ ρ, N ρ → N' ρ) (hr : ∀ o ρ, R o ρ → R' o ρ) (he : ∀ e, E e → E' e) : Post s N' R' E' := by
  refine ⟨?_⟩
  have h := h.out
  cases s with
  | nx ρ => exact hn ρ h
  | rt o ρ => exact hr o ρ h
  | exc e ρ => exact he e h
  | _ => exact h
abbrev noE : Exn → Prop := fun _ => False
abbrev noR : O → Rho → Prop := fun _ _ => False
theorem post_kseq {s : S} {f : Rho → S} {N R E} (h : Post s (fun ρ' => Post (f ρ') N R E) R E) : Post (kSeq f s) N R E := by
  have h := h.out
  cases s with
  | nx ρ => exact h
  | _ => exact ⟨h⟩
theorem post_seq {c : Ctx} {np : Nat} {s : MS} {ss : List MS} {ρ : Rho} {N R E} (h : Post (evS c np s ρ) (fun ρ' => Post (evSs c np ss ρ') N R E) R E) : Post (evSs c np (s :: ss) ρ) N R E := by
  rw [evSs.eq_2]
  exact post_kseq h
theorem post_step {c : Ctx} {np : Nat} {s : MS} {ss : List MS} {ρ ρ' : Rho} {N R E} (e : evS c np s ρ = .nx ρ') (h : Post (evSs c np ss ρ') N R E) : Post (evSs c np (s :: ss) ρ) N R E := by
  rw [Std.seq_nx e]
  exact h
theorem post_nil {c : Ctx} {np : Nat} {ρ : Rho} {N R E} (h : N ρ) : Post (evSs c np [] ρ) N R E := ⟨h⟩
theorem post_loop {s : S} {f : Rho → S} {N R E} (h : Post s (fun ρ' => Post (f ρ') N R E) R E) : Post (kLoop f s) N R E := by
  have h := h.out
  cases s with
  | bk => exact h.elim
  | ct => exact h.elim
  | nx ρ => exact h
  | _ => exact ⟨h⟩
/-- a for loop by its invariant -/
theorem foL_inv {α : Type} {t : MT} {b : Rho → S} (f : α → D) (I : List α → Rho → Prop) {R E} (step : ∀ a l ρ, I (a :: l) ρ → ∃ ρ1, bindT t (.val (f a)) ρ = some ρ1 ∧ Post (b ρ1) (I l) R E) : ∀ l ρ, I l ρ → Post (foL t b (l.map f) ρ) (I []) R E
  | [], ρ, h => ⟨h⟩
  | a :: l, ρ, h => by
    obtain ⟨ρ1, e, p⟩ := step a l ρ h
    show Post (match bindT t (.val (f a)) ρ with
      | some ρ' => kLoop (foL t b (l.map f)) (b ρ')
      | none => .bad) _ _ _
    rw [e]
    exact post_loop (p.mono (fun ρ' h' => foL_inv f I step l ρ' h') (fun _ _ h => h) fun _ h => h)
/-- the walked ones are known to be of a list -/
theorem foL_inv' {α : Type} {t : MT} {b : Rho → S} (f : α → D) (l0 : List α) (I : List α → Rho → Prop) {R E} (step : ∀ a ∈ l0, ∀ l ρ, I (a :: l) ρ → ∃ ρ1, bindT t (.val (f a)) ρ = some ρ1 ∧ Post (b ρ1) (I l) R E) : ∀ l ρ, (∀ a ∈ l, a ∈ l0) → I l ρ → Post (foL t b (l.map f) ρ) (I []) R E
  | [], ρ, _, h => ⟨h⟩
  | a :: l, ρ, m, h => by
    obtain ⟨ρ1, e, p⟩ := step a (m a (by simp)) l ρ h
    show Post (match bindT t (.val (f a)) ρ with
      | some ρ' => kLoop (foL t b (l.map f)) (b ρ')
      | none => .bad) _ _ _
    rw [e]
    exact post_loop (p.mono (fun ρ' h' => foL_inv' f l0 I step l ρ' (fun x hx => m x (by simp [hx])) h') (fun _ _ h => h) fun _ h => h)
/-- a while loop by an invariant of an abstract state and its measure -/
theorem whL_inv {α : Type} {t : Rho → R A} {b : Rho → S} (μ : α → Nat) (I : α → Rho → Prop) {N R E}
    (step : ∀ a ρ, I a ρ → (∃ ρ1, t ρ = .ok (.vl (.val (.bool true))) ρ1 ∧ Post (b ρ1) (fun ρ' => ∃ a', μ a' < μ a ∧ I a' ρ') R E) ∨ (∃ ρ1, t ρ = .ok (.vl (.val (.bool false))) ρ1 ∧ N ρ1)) :
    ∀ m a ρ, I a ρ → μ a < m → Post (whL t b m ρ) N R E
  | 0, a, ρ, _, h => absurd h (Nat.not_lt_zero _)
  | m + 1, a, ρ, i, h => by
    show Post (kTstS (fun ρ' => kLoop (whL t b m) (b ρ')) .nx (t ρ)) _ _ _
    rcases step a ρ i with ⟨ρ1, e, p⟩ | ⟨ρ1, e, p⟩
    · rw [e]
      show Post (kLoop (whL t b m) (b ρ1)) _ _ _
      exact post_loop (p.mono (fun ρ' ⟨a', h1, h2⟩ => whL_inv μ I step m a' ρ' h2 (by omega)) (fun _ _ h => h) fun _ h => h)
    · rw [e]
      exact ⟨p⟩
theorem post_whl {c : Ctx} {np : Nat} {t : ME} {b : List MS} {ρ : Rho} {N R E} (h : Post (whL (evE c t) (evSs c np b) c.W ρ) N R E) : Post (evS c np (.whl t b) ρ) N R E := h
theorem post_for {c : Ctx} {np : Nat} {t : MT} {e : ME} {b : List MS} {ρ ρ1 ρ' : Rho} {x : A} {d : D} {ds : List D} {N R E} (h1 : evE c e ρ = .ok x ρ1) (h2 : frz x ρ1 = some (d, ρ')) (h3 : items d = some ds) (h : Post (foL t (evSs c np b) ds ρ') N R E) : Post (evS c np (.forS t false [e] b) ρ) N R E := by
  rw [Std.for_val h1 h2 h3]; exact h
theorem post_rng {c : Ctx} {np : Nat} {t : MT} {its : List ME} {b : List MS} {ρ ρ' : Rho} {ds is : List D} {N R E} (h1 : evVs c its ρ = .ok ds ρ') (h2 : rngD ds = some is) (h : Post (foL t (evSs c np b) is ρ') N R E) : Post (evS c np (.forS t true its b) ρ) N R E := by
  rw [Std.for_rng h1 h2]; exact h
/-- a call's outcome -/
theorem run_post {c : Ctx} {f : Fn} {os : List O} {o : O} {os' : List O} (ha : okArgs f.rb os = true) (h : Post (evSs c f.np f.body (enter f os)) (fun ρ => o = .val .none ∧ endArgs f.rb os ρ = some os') (fun x ρ => x = o ∧ endArgs f.rb os ρ = some os') noE) : runFn c f os = .ok o os' := by
  unfold runFn
  rw [if_pos ha]
  cases hs : evSs c f.np f.body (enter f os) with
  | nx ρ =>
    rw [hs] at h
    have h := h.out
    obtain ⟨rfl, e⟩ := h
    show (match endArgs f.rb os ρ with
      | some os' => C.ok (.val .none) os'
      | none => .bad) = _
    rw [e]
  | rt x ρ =>
    rw [hs] at h
    have h := h.out
    obtain ⟨rfl, e⟩ := h
    show (match endArgs f.rb os ρ with
      | some os' => C.ok x os'
      | none => .bad) = _
    rw [e]
  | exc e ρ => rw [hs] at h; exact h.out.elim
  | _ => rw [hs] at h; exact h.out.elim
/-- a call's outcome, one of many -/
theorem run_ex {c : Ctx} {f : Fn} {os : List O} {Q : O → List O → Prop} (ha : okArgs f.rb os = true) (h : Post (evSs c f.np f.body (enter f os)) (fun ρ => ∃ os', endArgs f.rb os ρ = some os' ∧ Q (.val .none) os') (fun x ρ => ∃ os', endArgs f.rb os ρ = some os' ∧ Q x os') noE) : ∃ o os', runFn c f os = .ok o os' ∧ Q o os' := by
  unfold runFn
  rw [if_pos ha]
  cases hs : evSs c f.np f.body (enter f os) with
  | nx ρ =>
    rw [hs] at h
    have h := h.out
    obtain ⟨os', e, q⟩ := h
    refine ⟨_, _, ?_, q⟩
    show (match endArgs f.rb os ρ with
      | some os' => C.ok (.val .none) os'
      | none => .bad) = _
    rw [e]
  | rt x ρ =>
    rw [hs] at h
    have h := h.out
    obtain ⟨os', e, q⟩ := h
    refine ⟨_, _, ?_, q⟩
    show (match endArgs f.rb os ρ with
      | some os' => C.ok x os'
      | none => .bad) = _
    rw [e]
  | exc e ρ => rw [hs] at h; exact h.out.elim
  | _ => rw [hs] at h; exact h.out.elim
theorem run_exc {c : Ctx} {f : Fn} {os : List O} {e : Exn} (ha : okArgs f.rb os = true) (h : Post (evSs c f.np f.body (enter f os)) (fun _ => False) noR (fun x => x = e)) : runFn c f os = .exc e [] := by
  unfold runFn
  rw [if_pos ha]
  cases hs : evSs c f.np f.body (enter f os) with
  | exc x ρ =>
    rw [hs] at h
    have h : x = e := h.out
    subst h
    rfl
  | _ => rw [hs] at h; exact h.out.elim
end SW

set_option Elab.async false
set_option linter.all false
set_option maxRecDepth 100000
set_option maxHeartbeats 8000000
namespace SW
open PySem PySem.Spec L2
open PyProof.Rows hiding St
theorem foR_aux {t : MT} {b : Rho → S} (I : Nat → Rho → Prop) {R E} : ∀ (m i : Nat), (∀ j, i ≤ j → j < i + m → ∀ ρ, I j ρ → ∃ ρ1, bindT t (.val (.int (j : Int))) ρ = some ρ1 ∧ Post (b ρ1) (I (j + 1)) R E) → ∀ ρ, I i ρ → Post (foL t b ((List.range' i m).map fun (k : Nat) => .int (k : Int)) ρ) (I (i + m)) R E
  | 0, i, _, ρ, h => ⟨h⟩
  | m + 1, i, step, ρ, h => by
    obtain ⟨ρ1, e, p⟩ := step i (Nat.le_refl _) (by omega) ρ h
    rw [List.range'_succ, List.map_cons]
    show Post (match bindT t (.val (.int (i : Int))) ρ with
      | some ρ' => kLoop (foL t b _) (b ρ')
      | none => .bad) _ _ _
    rw [e]
    refine post_loop (p.mono (fun ρ' h' => ?_) (fun _ _ h => h) fun _ h => h)
    have := foR_aux I m (i + 1) (fun j h1 h2 => step j (by omega) (by omega)) ρ' h'
    rw [show i + (m + 1) = i + 1 + m from by omega]
    exact this
/-- over a range, by the number of turns -/
theorem foR_inv {t : MT} {b : Rho → S} (n : Nat) (I : Nat → Rho → Prop) {R E} (step : ∀ i < n, ∀ ρ, I i ρ → ∃ ρ1, bindT t (.val (.int (i : Int))) ρ = some ρ1 ∧ Post (b ρ1) (I (i + 1)) R E) {ρ : Rho} (h : I 0 ρ) : Post (foL t b ((List.range n).map fun (k : Nat) => .int (k : Int)) ρ) (I n) R E := by
  have := foR_aux (t := t) (b := b) (R := R) (E := E) I n 0 (fun j _ hj => step j (by omega)) ρ h
  rw [Nat.zero_add] at this
  rw [List.range_eq_range']
  exact this
theorem rng_nat {n : Nat} (h : n ≤ 1000000) : rngD [.int (n : Int)] = some ((List.range n).map fun (k : Nat) => .int (k : Int)) := by
  have e : smallI (n : Int) = true := by unfold smallI; rw [decide_eq_true_eq]; omega
  simp only [E_rngD_1]
  rw [if_pos e]
  unfold rngL
  simp
/-- a comprehension whose state goes along -/
theorem lcAll_st {α β γ : Type} {t : MT} {cond : Rho → R (Option D)} {e : α → D} {E : β → D} {P : γ → Prop} {Q : α → Option β → Prop} {ρ : γ → Rho} {l : List α} {ds : γ} (hf : ∀ x, ownFree (ρ x) t.slots = true) (hw : ∀ x, wipeR (ρ x) t.slots = ρ x) (hb : ∀ x y, backR (ρ x) (ρ y) t.slots = ρ y)
    (turn : ∀ a ∈ l, ∀ x, P x → ∃ y u, lcTurn t cond (e a) (ρ x) = .ok (u.map E) (ρ y) ∧ P y ∧ Q a u) (h : P ds) (hl : l.length ≤ 1000000) :
    ∃ (y : γ) (us : List (α × Option β)), lcAll t cond (l.map e) (ρ ds) = .ok (.vl (.lst ((us.filterMap (·.2)).map E))) (ρ y) ∧ P y ∧ us.map (·.1) = l ∧ ∀ q ∈ us, Q q.1 q.2 := by
  obtain ⟨y, us, e1, p, um, q⟩ := Std.lcL_st (P := P) (Q := Q) (E := E) (e := e) (ρ := ρ) (l := l) (acc := []) turn h (by rw [sizeLine_eq, List.length_nil]; omega)
  refine ⟨y, us, ?_, p, um, q⟩
  unfold lcAll
  rw [if_pos (hf ds), hw, e1]
  show R.ok _ (backR (ρ ds) (ρ y) t.slots) = _
  rw [hb]
  rfl
/-- over a range, with what has been made so far -/
theorem lcL_hist {β γ : Type} {f : D → Rho → R (Option D)} {E : β → D} {P : List β → γ → Prop} {ρ : γ → Rho} {n : Nat} (turn : ∀ hist x, hist.length < n → P hist x → ∃ y u, f (.int (hist.length : Int)) (ρ x) = .ok (some (E u)) (ρ y) ∧ P (hist ++ [u]) y) : ∀ (m : Nat) (hist : List β) (x : γ), hist.length + m = n → n ≤ 1000000 → P hist x →
    ∃ us y, lcL f ((List.range' hist.length m).map fun (k : Nat) => .int (k : Int)) (hist.map E) (ρ x) = .ok (us.map E) (ρ y) ∧ us.length = n ∧ P us y
  | 0, hist, x, e, _, h => ⟨hist, x, rfl, by omega, h⟩
  | m + 1, hist, x, e, hn, h => by
    obtain ⟨y, u, e1, h1⟩ := turn hist x (by omega) h
    obtain ⟨us, z, e2, e3, h2⟩ := lcL_hist turn m (hist ++ [u]) y (by rw [List.length_append, List.length_singleton]; omega) hn h1
    refine ⟨us, z, ?_, e3, h2⟩
    rw [List.range'_succ, List.map_cons]
    simp only [lcL, e1]
    rw [if_pos (by rw [List.length_map, sizeLine_eq]; omega)]
    rw [List.length_append, List.length_singleton] at e2
    rw [List.map_append] at e2
    exact e2
theorem lcAll_hist {β γ : Type} {t : MT} {cond : Rho → R (Option D)} {E : β → D} {P : List β → γ → Prop} {ρ0 ρ : γ → Rho} {n : Nat} (hf : ∀ x, ownFree (ρ0 x) t.slots = true) (hw : ∀ x, wipeR (ρ0 x) t.slots = ρ x) (hb : ∀ x y, backR (ρ0 x) (ρ y) t.slots = ρ0 y)
    (turn : ∀ hist x, hist.length < n → P hist x → ∃ y u, lcTurn t cond (.int (hist.length : Int)) (ρ x) = .ok (some (E u)) (ρ y) ∧ P (hist ++ [u]) y) {x : γ} (h : P [] x) (hn : n ≤ 1000000) :
    ∃ us y, lcAll t cond ((List.range n).map fun (k : Nat) => .int (k : Int)) (ρ0 x) = .ok (.vl (.lst (us.map E))) (ρ0 y) ∧ us.length = n ∧ P us y := by
  obtain ⟨us, y, e1, e2, h2⟩ := lcL_hist turn n [] x (by simp) hn h
  refine ⟨us, y, ?_, e2, h2⟩
  unfold lcAll
  rw [if_pos (hf x), hw, List.range_eq_range']
  have e1 : lcL (lcTurn t cond) ((List.range' 0 n).map fun (k : Nat) => .int (k : Int)) [] (ρ x) = .ok (us.map E) (ρ y) := e1
  rw [e1]
  show R.ok _ (backR (ρ0 x) (ρ y) t.slots) = _
  rw [hb]
/-- some of them, as they are -/
theorem us_sub {α : Type} : ∀ {us : List (α × Option α)} {l : List α}, us.map (·.1) = l → (∀ q ∈ us, q.2 = none ∨ q.2 = some q.1) → (us.filterMap (·.2)).Sublist l
  | [], l, h, _ => by rw [← h]; exact .slnil
  | q :: us, l, h, k => by
    rw [← h, List.map_cons, List.filterMap_cons]
    have ih := us_sub (us := us) rfl fun p hp => k p (by simp [hp])
    rcases k q (by simp) with e | e
    · rw [e]; exact ih.cons _
    · rw [e]; exact ih.cons_cons _
theorem erase_map {α β : Type} (f : α → β) : ∀ (l : List α) (i : Nat), (l.map f).eraseIdx i = (l.eraseIdx i).map f
  | [], _ => rfl
  | _ :: _, 0 => rfl
  | a :: l, i + 1 => by
    rw [List.map_cons, List.eraseIdx_cons_succ, List.eraseIdx_cons_succ, List.map_cons, erase_map f l i]
theorem erase_perm {α : Type} : ∀ (l : List α) (i : Nat) (h : i < l.length), (l[i] :: l.eraseIdx i).Perm l
  | a :: l, 0, _ => .refl _
  | a :: l, i + 1, h => by
    rw [List.eraseIdx_cons_succ]
    exact (List.Perm.swap a _ _).trans ((erase_perm l i (Nat.lt_of_succ_lt_succ h)).cons a)
theorem sIx_nat (n d i : Nat) (h : i ≤ n) : HT.sIx n d (some (i : Int)) = i := by
  unfold HT.sIx
  dsimp only
  rw [if_neg (by omega)]
  simp
  omega
theorem cutL_take {α : Type} (l : List α) (i : Nat) (h : i ≤ l.length) : cutL l none (some (i : Int)) = l.take i := by
  unfold cutL
  rw [sIx_nat _ _ _ h]
  simp [HT.sIx]
theorem cutL_drop {α : Type} (l : List α) (i : Nat) (h : i ≤ l.length) : cutL l (some (i : Int)) none = l.drop i := by
  unfold cutL
  rw [sIx_nat _ _ _ h]
  exact List.take_of_length_le (by rw [List.length_drop]; exact Nat.le_refl _)
end SW

set_option Elab.async false
set_option linter.all false
set_option maxRecDepth 100000
set_option maxHeartbeats 8000000
namespace Std
open PySem PySem.Spec L2 SW
open PyProof.Rows hiding St
theorem okN_tup {ds : List PyData} {k : Nat} (h : ∀ d ∈ ds, Std.okN k d = true) (hl : ds.length ≤ 1000) : Std.okN (k + 1) (.tuple ds) = true := by
  show (ds.all (okN k) && decide (ds.length ≤ 1000)) = true
  rw [Bool.and_eq_true, List.all_eq_true]
  exact ⟨h, decide_eq_true hl⟩
theorem okN_lst {ds : List PyData} {k : Nat} (h : ∀ d ∈ ds, Std.okN k d = true) (hl : ds.length ≤ 1000) : Std.okN (k + 1) (.list ds) = true := by
  show (ds.all (okN k) && decide (ds.length ≤ 1000)) = true
  rw [Bool.and_eq_true, List.all_eq_true]
  exact ⟨h, decide_eq_true hl⟩
theorem okD_tup {ds : List PyData} {k : Nat} (h : ∀ d ∈ ds, Std.okD k d = true) (hl : ds.length ≤ 1000) : Std.okD (k + 1) (.tuple ds) = true := by
  show (ds.all (okD k) && decide (ds.length ≤ 1000)) = true
  rw [Bool.and_eq_true, List.all_eq_true]
  exact ⟨h, decide_eq_true hl⟩
theorem okD_lst {ds : List PyData} {k : Nat} (h : ∀ d ∈ ds, Std.okD k d = true) (hl : ds.length ≤ 1000) : Std.okD (k + 1) (.list ds) = true := by
  show (ds.all (okD k) && decide (ds.length ≤ 1000)) = true
  rw [Bool.and_eq_true, List.all_eq_true]
  exact ⟨h, decide_eq_true hl⟩
theorem okD_kv {m : KV} {k : Nat} (h : ∀ p ∈ m, okS p.1 = true ∧ Std.okD k p.2 = true) (hl : m.length ≤ 1000) (nd : (m.map (·.1)).Nodup) : Std.okD (k + 1) (.dict (kvD m)) = true := by
  show (((kvD m).all fun p => strK p.1 && okD k p.2) && decide ((kvD m).length ≤ 1000) && decide (((kvD m).map fun p => kOf p.1).Nodup)) = true
  rw [Bool.and_eq_true, Bool.and_eq_true]
  refine ⟨⟨?_, by rw [len_kvD]; exact decide_eq_true hl⟩, ?_⟩
  · rw [List.all_eq_true]
    intro p hp
    obtain ⟨q, hq, rfl⟩ := List.mem_map.mp hp
    rw [Bool.and_eq_true]
    exact h q hq
  · unfold kvD
    rw [List.map_map]
    exact decide_eq_true nd
section
variable {cx : Nat → SW.Ctx} (hc : ∀ n os, (cx (n + 1)).call "_law_copy" os = runFn (cx n) f__law_copy os)
include hc
/-- a fresh list copied -/
theorem copy_lst {k n : Nat} {ds : List PyData} (h : ∀ d ∈ ds, Std.okD k d = true) (hl : ds.length ≤ 1000) : (cx (n + k + 2)).call "_law_copy" [.lst ds] = .ok (.lst ds) [.val (.list ds)] := by
  rw [show n + k + 2 = (n + k + 1) + 1 from by omega, hc]
  have ih : ∀ d ∈ ds, (cx (n + k + 1)).call "_law_copy" [.val d] = .ok (Std.copyO d) [.val d] := fun d hd => Std.law_copy hc k (n := n) (h d hd)
  have e := lc_map (t := .name 1) (cond := evC (cx (n + k + 1)) none (evE (cx (n + k + 1)) (.call "_law_copy" [(.var 1)]))) (ρ := [some (.val (.list ds)), none, none, none]) (l := ds) (ds := ds) (e := id) (g := fun d => some d) (by simp) rfl rfl (by rw [sizeLine_eq]; omega) fun a ha => by
    have := ih a ha
    simp [E_lcTurn_1, this]
  rw [Std.fmap_some, List.map_id'] at e
  have e1 : evE (cx (n + k + 1)) Std.lc__law_copy_1 [some (.lst ds), none, none, none] = .ok (.vl (.lst ds)) [some (.val (.list ds)), none, none, none] :=
    (Std.evI_val (x := .pl 0) rfl rfl rfl).trans e
  simp [Std.f__law_copy, e1]
end
end Std

set_option Elab.async false
set_option linter.all false
set_option maxRecDepth 100000
set_option maxHeartbeats 8000000
namespace K44
open PySem PySem.Spec L2 SW
open PyProof.Rows hiding St
@[simp] theorem wok_type : PyData.strOk (Str.ofString "type") = true := by decide +kernel
@[simp] theorem wok_value : PyData.strOk (Str.ofString "value") = true := by decide +kernel
@[simp] theorem wok_path : PyData.strOk (Str.ofString "path") = true := by decide +kernel
@[simp] theorem wok_list : PyData.strOk (Str.ofString "list") = true := by decide +kernel
@[simp] theorem wok_fun : PyData.strOk (Str.ofString "fun") = true := by decide +kernel
@[simp] theorem wok_int : PyData.strOk (Str.ofString "int") = true := by decide +kernel
@[simp] theorem wok_nil : PyData.strOk (Str.ofString "nil") = true := by decide +kernel
@[simp] theorem wok_var : PyData.strOk (Str.ofString "var") = true := by decide +kernel
@[simp] theorem wok_x : PyData.strOk (Str.ofString "x") = true := by decide +kernel
@[simp] theorem wok_add : PyData.strOk (Str.ofString "add") = true := by decide +kernel
@[simp] theorem wok_call : PyData.strOk (Str.ofString "call") = true := by decide +kernel
@[simp] theorem wok_unit : PyData.strOk (Str.ofString "unit") = true := by decide +kernel
@[simp] theorem wok_t : PyData.strOk (Str.ofString "t") = true := by decide +kernel
@[simp] theorem wok_v : PyData.strOk (Str.ofString "v") = true := by decide +kernel
@[simp] theorem wok_Zz : PyData.strOk (Str.ofString "Zz") = true := by decide +kernel
@[simp] theorem wok_name : PyData.strOk (Str.ofString "name") = true := by decide +kernel
@[simp] theorem wok_wrong : PyData.strOk (Str.ofString "wrong") = true := by decide +kernel
@[simp] theorem wok_told : PyData.strOk (Str.ofString "told") = true := by decide +kernel
@[simp] theorem wne_type_value : ((Str.ofString "type") == (Str.ofString "value")) = false := by decide +kernel
@[simp] theorem wne_type_path : ((Str.ofString "type") == (Str.ofString "path")) = false := by decide +kernel
@[simp] theorem wne_type_list : ((Str.ofString "type") == (Str.ofString "list")) = false := by decide +kernel
@[simp] theorem wne_type_fun : ((Str.ofString "type") == (Str.ofString "fun")) = false := by decide +kernel
@[simp] theorem wne_type_int : ((Str.ofString "type") == (Str.ofString "int")) = false := by decide +kernel
@[simp] theorem wne_type_nil : ((Str.ofString "type") == (Str.ofString "nil")) = false := by decide +kernel
@[simp] theorem wne_type_var : ((Str.ofString "type") == (Str.ofString "var")) = false := by decide +kernel
@[simp] theorem wne_type_x : ((Str.ofString "type") == (Str.ofString "x")) = false := by decide +kernel
@[simp] theorem wne_type_add : ((Str.ofString "type") == (Str.ofString "add")) = false := by decide +kernel
@[simp] theorem wne_type_call : ((Str.ofString "type") == (Str.ofString "call")) = false := by decide +kernel
@[simp] theorem wne_type_unit : ((Str.ofString "type") == (Str.ofString "unit")) = false := by decide +kernel
@[simp] theorem wne_type_t : ((Str.ofString "type") == (Str.ofString "t")) = false := by decide +kernel
@[simp] theorem wne_type_v : ((Str.ofString "type") == (Str.ofString "v")) = false := by decide +kernel
@[simp] theorem wne_type_Zz : ((Str.ofString "type") == (Str.ofString "Zz")) = false := by decide +kernel
@[simp] theorem wne_type_name : ((Str.ofString "type") == (Str.ofString "name")) = false := by decide +kernel
@[simp] theorem wne_type_wrong : ((Str.ofString "type") == (Str.ofString "wrong")) = false := by decide +kernel
@[simp] theorem wne_type_told : ((Str.ofString "type") == (Str.ofString "told")) = false := by decide +kernel
@[simp] theorem wne_value_type : ((Str.ofString "value") == (Str.ofString "type")) = false := by decide +kernel
@[simp] theorem wne_value_path : ((Str.ofString "value") == (Str.ofString "path")) = false := by decide +kernel
@[simp] theorem wne_value_list : ((Str.ofString "value") == (Str.ofString "list")) = false := by decide +kernel
@[simp] theorem wne_value_fun : ((Str.ofString "value") == (Str.ofString "fun")) = false := by decide +kernel
@[simp] theorem wne_value_int : ((Str.ofString "value") == (Str.ofString "int")) = false := by decide +kernel
@[simp] theorem wne_value_nil : ((Str.ofString "value") == (Str.ofString "nil")) = false := by decide +kernel
@[simp] theorem wne_value_var : ((Str.ofString "value") == (Str.ofString "var")) = false := by decide +kernel
@[simp] theorem wne_value_x : ((Str.ofString "value") == (Str.ofString "x")) = false := by decide +kernel
@[simp] theorem wne_value_add : ((Str.ofString "value") == (Str.ofString "add")) = false := by decide +kernel
@[simp] theorem wne_value_call : ((Str.ofString "value") == (Str.ofString "call")) = false := by decide +kernel
@[simp] theorem wne_value_unit : ((Str.ofString "value") == (Str.ofString "unit")) = false := by decide +kernel
@[simp] theorem wne_value_t : ((Str.ofString "value") == (Str.ofString "t")) = false := by decide +kernel
@[simp] theorem wne_value_v : ((Str.ofString "value") == (Str.ofString "v")) = false := by decide +kernel
@[simp] theorem wne_value_Zz : ((Str.ofString "value") == (Str.ofString "Zz")) = false := by decide +kernel
@[simp] theorem wne_value_name : ((Str.ofString "value") == (Str.ofString "name")) = false := by decide +kernel
@[simp] theorem wne_value_wrong : ((Str.ofString "value") == (Str.ofString "wrong")) = false := by decide +kernel
@[simp] theorem wne_value_told : ((Str.ofString "value") == (Str.ofString "told")) = false := by decide +kernel
@[simp] theorem wne_path_type : ((Str.ofString "path") == (Str.ofString "type")) = false := by decide +kernel
@[simp] theorem wne_path_value : ((Str.ofString "path") == (Str.ofString "value")) = false := by decide +kernel
@[simp] theorem wne_path_list : ((Str.ofString "path") == (Str.ofString "list")) = false := by decide +kernel
@[simp] theorem wne_path_fun : ((Str.ofString "path") == (Str.ofString "fun")) = false := by decide +kernel
@[simp] theorem wne_path_int : ((Str.ofString "path") == (Str.ofString "int")) = false := by decide +kernel
@[simp] theorem wne_path_nil : ((Str.ofString "path") == (Str.ofString "nil")) = false := by decide +kernel
@[simp] theorem wne_path_var : ((Str.ofString "path") == (Str.ofString "var")) = false := by decide +kernel
@[simp] theorem wne_path_x : ((Str.ofString "path") == (Str.ofString "x")) = false := by decide +kernel
@[simp] theorem wne_path_add : ((Str.ofString "path") == (Str.ofString "add")) = false := by decide +kernel
@[simp] theorem wne_path_call : ((Str.ofString "path") == (Str.ofString "call")) = false := by decide +kernel
@[simp] theorem wne_path_unit : ((Str.ofString "path") == (Str.ofString "unit")) = false := by decide +kernel
@[simp] theorem wne_path_t : ((Str.ofString "path") == (Str.ofString "t")) = false := by decide +kernel
@[simp] theorem wne_path_v : ((Str.ofString "path") == (Str.ofString "v")) = false := by decide +kernel
@[simp] theorem wne_path_Zz : ((Str.ofString "path") == (Str.ofString "Zz")) = false := by decide +kernel
@[simp] theorem wne_path_name : ((Str.ofString "path") == (Str.ofString "name")) = false := by decide +kernel
@[simp] theorem wne_path_wrong : ((Str.ofString "path") == (Str.ofString "wrong")) = false := by decide +kernel
@[simp] theorem wne_path_told : ((Str.ofString "path") == (Str.ofString "told")) = false := by decide +kernel
@[simp] theorem wne_list_type : ((Str.ofString "list") == (Str.ofString "type")) = false := by decide +kernel
@[simp] theorem wne_list_value : ((Str.ofString "list") == (Str.ofString "value")) = false := by decide +kernel
@[simp] theorem wne_list_path : ((Str.ofString "list") == (Str.ofString "path")) = false := by decide +kernel
@[simp] theorem wne_list_fun : ((Str.ofString "list") == (Str.ofString "fun")) = false := by decide +kernel
@[simp] theorem wne_list_int : ((Str.ofString "list") == (Str.ofString "int")) = false := by decide +kernel
@[simp] theorem wne_list_nil : ((Str.ofString "list") == (Str.ofString "nil")) = false := by decide +kernel
@[simp] theorem wne_list_var : ((Str.ofString "list") == (Str.ofString "var")) = false := by decide +kernel
@[simp] theorem wne_list_x : ((Str.ofString "list") == (Str.ofString "x")) = false := by decide +kernel
@[simp] theorem wne_list_add : ((Str.ofString "list") == (Str.ofString "add")) = false := by decide +kernel
@[simp] theorem wne_list_call : ((Str.ofString "list") == (Str.ofString "call")) = false := by decide +kernel
@[simp] theorem wne_list_unit : ((Str.ofString "list") == (Str.ofString "unit")) = false := by decide +kernel
@[simp] theorem wne_list_t : ((Str.ofString "list") == (Str.ofString "t")) = false := by decide +kernel
@[simp] theorem wne_list_v : ((Str.ofString "list") == (Str.ofString "v")) = false := by decide +kernel
@[simp] theorem wne_list_Zz : ((Str.ofString "list") == (Str.ofString "Zz")) = false := by decide +kernel
@[simp] theorem wne_list_name : ((Str.ofString "list") == (Str.ofString "name")) = false := by decide +kernel
@[simp] theorem wne_list_wrong : ((Str.ofString "list") == (Str.ofString "wrong")) = false := by decide +kernel
@[simp] theorem wne_list_told : ((Str.ofString "list") == (Str.ofString "told")) = false := by decide +kernel
@[simp] theorem wne_fun_type : ((Str.ofString "fun") == (Str.ofString "type")) = false := by decide +kernel
@[simp] theorem wne_fun_value : ((Str.ofString "fun") == (Str.ofString "value")) = false := by decide +kernel
@[simp] theorem wne_fun_path : ((Str.ofString "fun") == (Str.ofString "path")) = false := by decide +kernel
@[simp] theorem wne_fun_list : ((Str.ofString "fun") == (Str.ofString "list")) = false := by decide +kernel
@[simp] theorem wne_fun_int : ((Str.ofString "fun") == (Str.ofString "int")) = false := by decide +kernel
@[simp] theorem wne_fun_nil : ((Str.ofString "fun") == (Str.ofString "nil")) = false := by decide +kernel
@[simp] theorem wne_fun_var : ((Str.ofString "fun") == (Str.ofString "var")) = false := by decide +kernel
@[simp] theorem wne_fun_x : ((Str.ofString "fun") == (Str.ofString "x")) = false := by decide +kernel
@[simp] theorem wne_fun_add : ((Str.ofString "fun") == (Str.ofString "add")) = false := by decide +kernel
@[simp] theorem wne_fun_call : ((Str.ofString "fun") == (Str.ofString "call")) = false := by decide +kernel
@[simp] theorem wne_fun_unit : ((Str.ofString "fun") == (Str.ofString "unit")) = false := by decide +kernel
@[simp] theorem wne_fun_t : ((Str.ofString "fun") == (Str.ofString "t")) = false := by decide +kernel
@[simp] theorem wne_fun_v : ((Str.ofString "fun") == (Str.ofString "v")) = false := by decide +kernel
@[simp] theorem wne_fun_Zz : ((Str.ofString "fun") == (Str.ofString "Zz")) = false := by decide +kernel
@[simp] theorem wne_fun_name : ((Str.ofString "fun") == (Str.ofString "name")) = false := by decide +kernel
@[simp] theorem wne_fun_wrong : ((Str.ofString "fun") == (Str.ofString "wrong")) = false := by decide +kernel
@[simp] theorem wne_fun_told : ((Str.ofString "fun") == (Str.ofString "told")) = false := by decide +kernel
@[simp] theorem wne_int_type : ((Str.ofString "int") == (Str.ofString "type")) = false := by decide +kernel
@[simp] theorem wne_int_value : ((Str.ofString "int") == (Str.ofString "value")) = false := by decide +kernel
@[simp] theorem wne_int_path : ((Str.ofString "int") == (Str.ofString "path")) = false := by decide +kernel
@[simp] theorem wne_int_list : ((Str.ofString "int") == (Str.ofString "list")) = false := by decide +kernel
@[simp] theorem wne_int_fun : ((Str.ofString "int") == (Str.ofString "fun")) = false := by decide +kernel
@[simp] theorem wne_int_nil : ((Str.ofString "int") == (Str.ofString "nil")) = false := by decide +kernel
@[simp] theorem wne_int_var : ((Str.ofString "int") == (Str.ofString "var")) = false := by decide +kernel
@[simp] theorem wne_int_x : ((Str.ofString "int") == (Str.ofString "x")) = false := by decide +kernel
@[simp] theorem wne_int_add : ((Str.ofString "int") == (Str.ofString "add")) = false := by decide +kernel
@[simp] theorem wne_int_call : ((Str.ofString "int") == (Str.ofString "call")) = false := by decide +kernel
@[simp] theorem wne_int_unit : ((Str.ofString "int") == (Str.ofString "unit")) = false := by decide +kernel
@[simp] theorem wne_int_t : ((Str.ofString "int") == (Str.ofString "t")) = false := by decide +kernel
@[simp] theorem wne_int_v : ((Str.ofString "int") == (Str.ofString "v")) = false := by decide +kernel
@[simp] theorem wne_int_Zz : ((Str.ofString "int") == (Str.ofString "Zz")) = false := by decide +kernel
@[simp] theorem wne_int_name : ((Str.ofString "int") == (Str.ofString "name")) = false := by decide +kernel
@[simp] theorem wne_int_wrong : ((Str.ofString "int") == (Str.ofString "wrong")) = false := by decide +kernel
@[simp] theorem wne_int_told : ((Str.ofString "int") == (Str.ofString "told")) = false := by decide +kernel
@[simp] theorem wne_nil_type : ((Str.ofString "nil") == (Str.ofString "type")) = false := by decide +kernel
@[simp] theorem wne_nil_value : ((Str.ofString "nil") == (Str.ofString "value")) = false := by decide +kernel
@[simp] theorem wne_nil_path : ((Str.ofString "nil") == (Str.ofString "path")) = false := by decide +kernel
@[simp] theorem wne_nil_list : ((Str.ofString "nil") == (Str.ofString "list")) = false := by decide +kernel
@[simp] theorem wne_nil_fun : ((Str.ofString "nil") == (Str.ofString "fun")) = false := by decide +kernel
@[simp] theorem wne_nil_int : ((Str.ofString "nil") == (Str.ofString "int")) = false := by decide +kernel
@[simp] theorem wne_nil_var : ((Str.ofString "nil") == (Str.ofString "var")) = false := by decide +kernel
@[simp] theorem wne_nil_x : ((Str.ofString "nil") == (Str.ofString "x")) = false := by decide +kernel
@[simp] theorem wne_nil_add : ((Str.ofString "nil") == (Str.ofString "add")) = false := by decide +kernel
@[simp] theorem wne_nil_call : ((Str.ofString "nil") == (Str.ofString "call")) = false := by decide +kernel
@[simp] theorem wne_nil_unit : ((Str.ofString "nil") == (Str.ofString "unit")) = false := by decide +kernel
@[simp] theorem wne_nil_t : ((Str.ofString "nil") == (Str.ofString "t")) = false := by decide +kernel
@[simp] theorem wne_nil_v : ((Str.ofString "nil") == (Str.ofString "v")) = false := by decide +kernel
@[simp] theorem wne_nil_Zz : ((Str.ofString "nil") == (Str.ofString "Zz")) = false := by decide +kernel
@[simp] theorem wne_nil_name : ((Str.ofString "nil") == (Str.ofString "name")) = false := by decide +kernel
@[simp] theorem wne_nil_wrong : ((Str.ofString "nil") == (Str.ofString "wrong")) = false := by decide +kernel
@[simp] theorem wne_nil_told : ((Str.ofString "nil") == (Str.ofString "told")) = false := by decide +kernel
@[simp] theorem wne_var_type : ((Str.ofString "var") == (Str.ofString "type")) = false := by decide +kernel
@[simp] theorem wne_var_value : ((Str.ofString "var") == (Str.ofString "value")) = false := by decide +kernel
@[simp] theorem wne_var_path : ((Str.ofString "var") == (Str.ofString "path")) = false := by decide +kernel
@[simp] theorem wne_var_list : ((Str.ofString "var") == (Str.ofString "list")) = false := by decide +kernel
@[simp] theorem wne_var_fun : ((Str.ofString "var") == (Str.ofString "fun")) = false := by decide +kernel
@[simp] theorem wne_var_int : ((Str.ofString "var") == (Str.ofString "int")) = false := by decide +kernel
@[simp] theorem wne_var_nil : ((Str.ofString "var") == (Str.ofString "nil")) = false := by decide +kernel
@[simp] theorem wne_var_x : ((Str.ofString "var") == (Str.ofString "x")) = false := by decide +kernel
@[simp] theorem wne_var_add : ((Str.ofString "var") == (Str.ofString "add")) = false := by decide +kernel
@[simp] theorem wne_var_call : ((Str.ofString "var") == (Str.ofString "call")) = false := by decide +kernel
@[simp] theorem wne_var_unit : ((Str.ofString "var") == (Str.ofString "unit")) = false := by decide +kernel
@[simp] theorem wne_var_t : ((Str.ofString "var") == (Str.ofString "t")) = false := by decide +kernel
@[simp] theorem wne_var_v : ((Str.ofString "var") == (Str.ofString "v")) = false := by decide +kernel
@[simp] theorem wne_var_Zz : ((Str.ofString "var") == (Str.ofString "Zz")) = false := by decide +kernel
@[simp] theorem wne_var_name : ((Str.ofString "var") == (Str.ofString "name")) = false := by decide +kernel
@[simp] theorem wne_var_wrong : ((Str.ofString "var") == (Str.ofString "wrong")) = false := by decide +kernel
@[simp] theorem wne_var_told : ((Str.ofString "var") == (Str.ofString "told")) = false := by decide +kernel
@[simp] theorem wne_x_type : ((Str.ofString "x") == (Str.ofString "type")) = false := by decide +kernel
@[simp] theorem wne_x_value : ((Str.ofString "x") == (Str.ofString "value")) = false := by decide +kernel
@[simp] theorem wne_x_path : ((Str.ofString "x") == (Str.ofString "path")) = false := by decide +kernel
@[simp] theorem wne_x_list : ((Str.ofString "x") == (Str.ofString "list")) = false := by decide +kernel
@[simp] theorem wne_x_fun : ((Str.ofString "x") == (Str.ofString "fun")) = false := by decide +kernel
@[simp] theorem wne_x_int : ((Str.ofString "x") == (Str.ofString "int")) = false := by decide +kernel
@[simp] theorem wne_x_nil : ((Str.ofString "x") == (Str.ofString "nil")) = false := by decide +kernel
@[simp] theorem wne_x_var : ((Str.ofString "x") == (Str.ofString "var")) = false := by decide +kernel
@[simp] theorem wne_x_add : ((Str.ofString "x") == (Str.ofString "add")) = false := by decide +kernel
@[simp] theorem wne_x_call : ((Str.ofString "x") == (Str.ofString "call")) = false := by decide +kernel
@[simp] theorem wne_x_unit : ((Str.ofString "x") == (Str.ofString "unit")) = false := by decide +kernel
@[simp] theorem wne_x_t : ((Str.ofString "x") == (Str.ofString "t")) = false := by decide +kernel
@[simp] theorem wne_x_v : ((Str.ofString "x") == (Str.ofString "v")) = false := by decide +kernel
@[simp] theorem wne_x_Zz : ((Str.ofString "x") == (Str.ofString "Zz")) = false := by decide +kernel
@[simp] theorem wne_x_name : ((Str.ofString "x") == (Str.ofString "name")) = false := by decide +kernel
@[simp] theorem wne_x_wrong : ((Str.ofString "x") == (Str.ofString "wrong")) = false := by decide +kernel
@[simp] theorem wne_x_told : ((Str.ofString "x") == (Str.ofString "told")) = false := by decide +kernel
@[simp] theorem wne_add_type : ((Str.ofString "add") == (Str.ofString "type")) = false := by decide +kernel
@[simp] theorem wne_add_value : ((Str.ofString "add") == (Str.ofString "value")) = false := by decide +kernel
@[simp] theorem wne_add_path : ((Str.ofString "add") == (Str.ofString "path")) = false := by decide +kernel
@[simp] theorem wne_add_list : ((Str.ofString "add") == (Str.ofString "list")) = false := by decide +kernel
@[simp] theorem wne_add_fun : ((Str.ofString "add") == (Str.ofString "fun")) = false := by decide +kernel
@[simp] theorem wne_add_int : ((Str.ofString "add") == (Str.ofString "int")) = false := by decide +kernel
@[simp] theorem wne_add_nil : ((Str.ofString "add") == (Str.ofString "nil")) = false := by decide +kernel
@[simp] theorem wne_add_var : ((Str.ofString "add") == (Str.ofString "var")) = false := by decide +kernel
@[simp] theorem wne_add_x : ((Str.ofString "add") == (Str.ofString "x")) = false := by decide +kernel
@[simp] theorem wne_add_call : ((Str.ofString "add") == (Str.ofString "call")) = false := by decide +kernel
@[simp] theorem wne_add_unit : ((Str.ofString "add") == (Str.ofString "unit")) = false := by decide +kernel
@[simp] theorem wne_add_t : ((Str.ofString "add") == (Str.ofString "t")) = false := by decide +kernel
@[simp] theorem wne_add_v : ((Str.ofString "add") == (Str.ofString "v")) = false := by decide +kernel
@[simp] theorem wne_add_Zz : ((Str.ofString "add") == (Str.ofString "Zz")) = false := by decide +kernel
@[simp] theorem wne_add_name : ((Str.ofString "add") == (Str.ofString "name")) = false := by decide +kernel
@[simp] theorem wne_add_wrong : ((Str.ofString "add") == (Str.ofString "wrong")) = false := by decide +kernel
@[simp] theorem wne_add_told : ((Str.ofString "add") == (Str.ofString "told")) = false := by decide +kernel
@[simp] theorem wne_call_type : ((Str.ofString "call") == (Str.ofString "type")) = false := by decide +kernel
@[simp] theorem wne_call_value : ((Str.ofString "call") == (Str.ofString "value")) = false := by decide +kernel
@[simp] theorem wne_call_path : ((Str.ofString "call") == (Str.ofString "path")) = false := by decide +kernel
@[simp] theorem wne_call_list : ((Str.ofString "call") == (Str.ofString "list")) = false := by decide +kernel
@[simp] theorem wne_call_fun : ((Str.ofString "call") == (Str.ofString "fun")) = false := by decide +kernel
@[simp] theorem wne_call_int : ((Str.ofString "call") == (Str.ofString "int")) = false := by decide +kernel
@[simp] theorem wne_call_nil : ((Str.ofString "call") == (Str.ofString "nil")) = false := by decide +kernel
@[simp] theorem wne_call_var : ((Str.ofString "call") == (Str.ofString "var")) = false := by decide +kernel
@[simp] theorem wne_call_x : ((Str.ofString "call") == (Str.ofString "x")) = false := by decide +kernel
@[simp] theorem wne_call_add : ((Str.ofString "call") == (Str.ofString "add")) = false := by decide +kernel
@[simp] theorem wne_call_unit : ((Str.ofString "call") == (Str.ofString "unit")) = false := by decide +kernel
@[simp] theorem wne_call_t : ((Str.ofString "call") == (Str.ofString "t")) = false := by decide +kernel
@[simp] theorem wne_call_v : ((Str.ofString "call") == (Str.ofString "v")) = false := by decide +kernel
@[simp] theorem wne_call_Zz : ((Str.ofString "call") == (Str.ofString "Zz")) = false := by decide +kernel
@[simp] theorem wne_call_name : ((Str.ofString "call") == (Str.ofString "name")) = false := by decide +kernel
@[simp] theorem wne_call_wrong : ((Str.ofString "call") == (Str.ofString "wrong")) = false := by decide +kernel
@[simp] theorem wne_call_told : ((Str.ofString "call") == (Str.ofString "told")) = false := by decide +kernel
@[simp] theorem wne_unit_type : ((Str.ofString "unit") == (Str.ofString "type")) = false := by decide +kernel
@[simp] theorem wne_unit_value : ((Str.ofString "unit") == (Str.ofString "value")) = false := by decide +kernel
@[simp] theorem wne_unit_path : ((Str.ofString "unit") == (Str.ofString "path")) = false := by decide +kernel
@[simp] theorem wne_unit_list : ((Str.ofString "unit") == (Str.ofString "list")) = false := by decide +kernel
@[simp] theorem wne_unit_fun : ((Str.ofString "unit") == (Str.ofString "fun")) = false := by decide +kernel
@[simp] theorem wne_unit_int : ((Str.ofString "unit") == (Str.ofString "int")) = false := by decide +kernel
@[simp] theorem wne_unit_nil : ((Str.ofString "unit") == (Str.ofString "nil")) = false := by decide +kernel
@[simp] theorem wne_unit_var : ((Str.ofString "unit") == (Str.ofString "var")) = false := by decide +kernel
@[simp] theorem wne_unit_x : ((Str.ofString "unit") == (Str.ofString "x")) = false := by decide +kernel
@[simp] theorem wne_unit_add : ((Str.ofString "unit") == (Str.ofString "add")) = false := by decide +kernel
@[simp] theorem wne_unit_call : ((Str.ofString "unit") == (Str.ofString "call")) = false := by decide +kernel
@[simp] theorem wne_unit_t : ((Str.ofString "unit") == (Str.ofString "t")) = false := by decide +kernel
@[simp] theorem wne_unit_v : ((Str.ofString "unit") == (Str.ofString "v")) = false := by decide +kernel
@[simp] theorem wne_unit_Zz : ((Str.ofString "unit") == (Str.ofString "Zz")) = false := by decide +kernel
@[simp] theorem wne_unit_name : ((Str.ofString "unit") == (Str.ofString "name")) = false := by decide +kernel
@[simp] theorem wne_unit_wrong : ((Str.ofString "unit") == (Str.ofString "wrong")) = false := by decide +kernel
@[simp] theorem wne_unit_told : ((Str.ofString "unit") == (Str.ofString "told")) = false := by decide +kernel
@[simp] theorem wne_t_type : ((Str.ofString "t") == (Str.ofString "type")) = false := by decide +kernel
@[simp] theorem wne_t_value : ((Str.ofString "t") == (Str.ofString "value")) = false := by decide +kernel
@[simp] theorem wne_t_path : ((Str.ofString "t") == (Str.ofString "path")) = false := by decide +kernel
@[simp] theorem wne_t_list : ((Str.ofString "t") == (Str.ofString "list")) = false := by decide +kernel
@[simp] theorem wne_t_fun : ((Str.ofString "t") == (Str.ofString "fun")) = false := by decide +kernel
@[simp] theorem wne_t_int : ((Str.ofString "t") == (Str.ofString "int")) = false := by decide +kernel
@[simp] theorem wne_t_nil : ((Str.ofString "t") == (Str.ofString "nil")) = false := by decide +kernel
@[simp] theorem wne_t_var : ((Str.ofString "t") == (Str.ofString "var")) = false := by decide +kernel
@[simp] theorem wne_t_x : ((Str.ofString "t") == (Str.ofString "x")) = false := by decide +kernel
@[simp] theorem wne_t_add : ((Str.ofString "t") == (Str.ofString "add")) = false := by decide +kernel
@[simp] theorem wne_t_call : ((Str.ofString "t") == (Str.ofString "call")) = false := by decide +kernel
@[simp] theorem wne_t_unit : ((Str.ofString "t") == (Str.ofString "unit")) = false := by decide +kernel
@[simp] theorem wne_t_v : ((Str.ofString "t") == (Str.ofString "v")) = false := by decide +kernel
@[simp] theorem wne_t_Zz : ((Str.ofString "t") == (Str.ofString "Zz")) = false := by decide +kernel
@[simp] theorem wne_t_name : ((Str.ofString "t") == (Str.ofString "name")) = false := by decide +kernel
@[simp] theorem wne_t_wrong : ((Str.ofString "t") == (Str.ofString "wrong")) = false := by decide +kernel
@[simp] theorem wne_t_told : ((Str.ofString "t") == (Str.ofString "told")) = false := by decide +kernel
@[simp] theorem wne_v_type : ((Str.ofString "v") == (Str.ofString "type")) = false := by decide +kernel
@[simp] theorem wne_v_value : ((Str.ofString "v") == (Str.ofString "value")) = false := by decide +kernel
@[simp] theorem wne_v_path : ((Str.ofString "v") == (Str.ofString "path")) = false := by decide +kernel
@[simp] theorem wne_v_list : ((Str.ofString "v") == (Str.ofString "list")) = false := by decide +kernel
@[simp] theorem wne_v_fun : ((Str.ofString "v") == (Str.ofString "fun")) = false := by decide +kernel
@[simp] theorem wne_v_int : ((Str.ofString "v") == (Str.ofString "int")) = false := by decide +kernel
@[simp] theorem wne_v_nil : ((Str.ofString "v") == (Str.ofString "nil")) = false := by decide +kernel
@[simp] theorem wne_v_var : ((Str.ofString "v") == (Str.ofString "var")) = false := by decide +kernel
@[simp] theorem wne_v_x : ((Str.ofString "v") == (Str.ofString "x")) = false := by decide +kernel
@[simp] theorem wne_v_add : ((Str.ofString "v") == (Str.ofString "add")) = false := by decide +kernel
@[simp] theorem wne_v_call : ((Str.ofString "v") == (Str.ofString "call")) = false := by decide +kernel
@[simp] theorem wne_v_unit : ((Str.ofString "v") == (Str.ofString "unit")) = false := by decide +kernel
@[simp] theorem wne_v_t : ((Str.ofString "v") == (Str.ofString "t")) = false := by decide +kernel
@[simp] theorem wne_v_Zz : ((Str.ofString "v") == (Str.ofString "Zz")) = false := by decide +kernel
@[simp] theorem wne_v_name : ((Str.ofString "v") == (Str.ofString "name")) = false := by decide +kernel
@[simp] theorem wne_v_wrong : ((Str.ofString "v") == (Str.ofString "wrong")) = false := by decide +kernel
@[simp] theorem wne_v_told : ((Str.ofString "v") == (Str.ofString "told")) = false := by decide +kernel
@[simp] theorem wne_Zz_type : ((Str.ofString "Zz") == (Str.ofString "type")) = false := by decide +kernel
@[simp] theorem wne_Zz_value : ((Str.ofString "Zz") == (Str.ofString "value")) = false := by decide +kernel
@[simp] theorem wne_Zz_path : ((Str.ofString "Zz") == (Str.ofString "path")) = false := by decide +kernel
@[simp] theorem wne_Zz_list : ((Str.ofString "Zz") == (Str.ofString "list")) = false := by decide +kernel
@[simp] theorem wne_Zz_fun : ((Str.ofString "Zz") == (Str.ofString "fun")) = false := by decide +kernel
@[simp] theorem wne_Zz_int : ((Str.ofString "Zz") == (Str.ofString "int")) = false := by decide +kernel
@[simp] theorem wne_Zz_nil : ((Str.ofString "Zz") == (Str.ofString "nil")) = false := by decide +kernel
@[simp] theorem wne_Zz_var : ((Str.ofString "Zz") == (Str.ofString "var")) = false := by decide +kernel
@[simp] theorem wne_Zz_x : ((Str.ofString "Zz") == (Str.ofString "x")) = false := by decide +kernel
@[simp] theorem wne_Zz_add : ((Str.ofString "Zz") == (Str.ofString "add")) = false := by decide +kernel
@[simp] theorem wne_Zz_call : ((Str.ofString "Zz") == (Str.ofString "call")) = false := by decide +kernel
@[simp] theorem wne_Zz_unit : ((Str.ofString "Zz") == (Str.ofString "unit")) = false := by decide +kernel
@[simp] theorem wne_Zz_t : ((Str.ofString "Zz") == (Str.ofString "t")) = false := by decide +kernel
@[simp] theorem wne_Zz_v : ((Str.ofString "Zz") == (Str.ofString "v")) = false := by decide +kernel
@[simp] theorem wne_Zz_name : ((Str.ofString "Zz") == (Str.ofString "name")) = false := by decide +kernel
@[simp] theorem wne_Zz_wrong : ((Str.ofString "Zz") == (Str.ofString "wrong")) = false := by decide +kernel
@[simp] theorem wne_Zz_told : ((Str.ofString "Zz") == (Str.ofString "told")) = false := by decide +kernel
@[simp] theorem wne_name_type : ((Str.ofString "name") == (Str.ofString "type")) = false := by decide +kernel
@[simp] theorem wne_name_value : ((Str.ofString "name") == (Str.ofString "value")) = false := by decide +kernel
@[simp] theorem wne_name_path : ((Str.ofString "name") == (Str.ofString "path")) = false := by decide +kernel
@[simp] theorem wne_name_list : ((Str.ofString "name") == (Str.ofString "list")) = false := by decide +kernel
@[simp] theorem wne_name_fun : ((Str.ofString "name") == (Str.ofString "fun")) = false := by decide +kernel
@[simp] theorem wne_name_int : ((Str.ofString "name") == (Str.ofString "int")) = false := by decide +kernel
@[simp] theorem wne_name_nil : ((Str.ofString "name") == (Str.ofString "nil")) = false := by decide +kernel
@[simp] theorem wne_name_var : ((Str.ofString "name") == (Str.ofString "var")) = false := by decide +kernel
@[simp] theorem wne_name_x : ((Str.ofString "name") == (Str.ofString "x")) = false := by decide +kernel
@[simp] theorem wne_name_add : ((Str.ofString "name") == (Str.ofString "add")) = false := by decide +kernel
@[simp] theorem wne_name_call : ((Str.ofString "name") == (Str.ofString "call")) = false := by decide +kernel
@[simp] theorem wne_name_unit : ((Str.ofString "name") == (Str.ofString "unit")) = false := by decide +kernel
@[simp] theorem wne_name_t : ((Str.ofString "name") == (Str.ofString "t")) = false := by decide +kernel
@[simp] theorem wne_name_v : ((Str.ofString "name") == (Str.ofString "v")) = false := by decide +kernel
@[simp] theorem wne_name_Zz : ((Str.ofString "name") == (Str.ofString "Zz")) = false := by decide +kernel
@[simp] theorem wne_name_wrong : ((Str.ofString "name") == (Str.ofString "wrong")) = false := by decide +kernel
@[simp] theorem wne_name_told : ((Str.ofString "name") == (Str.ofString "told")) = false := by decide +kernel
@[simp] theorem wne_wrong_type : ((Str.ofString "wrong") == (Str.ofString "type")) = false := by decide +kernel
@[simp] theorem wne_wrong_value : ((Str.ofString "wrong") == (Str.ofString "value")) = false := by decide +kernel
@[simp] theorem wne_wrong_path : ((Str.ofString "wrong") == (Str.ofString "path")) = false := by decide +kernel
@[simp] theorem wne_wrong_list : ((Str.ofString "wrong") == (Str.ofString "list")) = false := by decide +kernel
@[simp] theorem wne_wrong_fun : ((Str.ofString "wrong") == (Str.ofString "fun")) = false := by decide +kernel
@[simp] theorem wne_wrong_int : ((Str.ofString "wrong") == (Str.ofString "int")) = false := by decide +kernel
@[simp] theorem wne_wrong_nil : ((Str.ofString "wrong") == (Str.ofString "nil")) = false := by decide +kernel
@[simp] theorem wne_wrong_var : ((Str.ofString "wrong") == (Str.ofString "var")) = false := by decide +kernel
@[simp] theorem wne_wrong_x : ((Str.ofString "wrong") == (Str.ofString "x")) = false := by decide +kernel
@[simp] theorem wne_wrong_add : ((Str.ofString "wrong") == (Str.ofString "add")) = false := by decide +kernel
@[simp] theorem wne_wrong_call : ((Str.ofString "wrong") == (Str.ofString "call")) = false := by decide +kernel
@[simp] theorem wne_wrong_unit : ((Str.ofString "wrong") == (Str.ofString "unit")) = false := by decide +kernel
@[simp] theorem wne_wrong_t : ((Str.ofString "wrong") == (Str.ofString "t")) = false := by decide +kernel
@[simp] theorem wne_wrong_v : ((Str.ofString "wrong") == (Str.ofString "v")) = false := by decide +kernel
@[simp] theorem wne_wrong_Zz : ((Str.ofString "wrong") == (Str.ofString "Zz")) = false := by decide +kernel
@[simp] theorem wne_wrong_name : ((Str.ofString "wrong") == (Str.ofString "name")) = false := by decide +kernel
@[simp] theorem wne_wrong_told : ((Str.ofString "wrong") == (Str.ofString "told")) = false := by decide +kernel
@[simp] theorem wne_told_type : ((Str.ofString "told") == (Str.ofString "type")) = false := by decide +kernel
@[simp] theorem wne_told_value : ((Str.ofString "told") == (Str.ofString "value")) = false := by decide +kernel
@[simp] theorem wne_told_path : ((Str.ofString "told") == (Str.ofString "path")) = false := by decide +kernel
@[simp] theorem wne_told_list : ((Str.ofString "told") == (Str.ofString "list")) = false := by decide +kernel
@[simp] theorem wne_told_fun : ((Str.ofString "told") == (Str.ofString "fun")) = false := by decide +kernel
@[simp] theorem wne_told_int : ((Str.ofString "told") == (Str.ofString "int")) = false := by decide +kernel
@[simp] theorem wne_told_nil : ((Str.ofString "told") == (Str.ofString "nil")) = false := by decide +kernel
@[simp] theorem wne_told_var : ((Str.ofString "told") == (Str.ofString "var")) = false := by decide +kernel
@[simp] theorem wne_told_x : ((Str.ofString "told") == (Str.ofString "x")) = false := by decide +kernel
@[simp] theorem wne_told_add : ((Str.ofString "told") == (Str.ofString "add")) = false := by decide +kernel
@[simp] theorem wne_told_call : ((Str.ofString "told") == (Str.ofString "call")) = false := by decide +kernel
@[simp] theorem wne_told_unit : ((Str.ofString "told") == (Str.ofString "unit")) = false := by decide +kernel
@[simp] theorem wne_told_t : ((Str.ofString "told") == (Str.ofString "t")) = false := by decide +kernel
@[simp] theorem wne_told_v : ((Str.ofString "told") == (Str.ofString "v")) = false := by decide +kernel
@[simp] theorem wne_told_Zz : ((Str.ofString "told") == (Str.ofString "Zz")) = false := by decide +kernel
@[simp] theorem wne_told_name : ((Str.ofString "told") == (Str.ofString "name")) = false := by decide +kernel
@[simp] theorem wne_told_wrong : ((Str.ofString "told") == (Str.ofString "wrong")) = false := by decide +kernel
theorem c_paths_in (n : Nat) (os : List O) : (cxAt rs fuelW (n + 1)).call "paths_in" os = runFn (cxAt rs fuelW n) f_paths_in os := by
  rw [cl_paths_in, show withDfl f_paths_in os = os by simp [withDfl, f_paths_in]]
theorem c_is_plain (n : Nat) (os : List O) : (cxAt rs fuelW (n + 1)).call "is_plain" os = runFn (cxAt rs fuelW n) f_is_plain os := by
  rw [cl_is_plain, show withDfl f_is_plain os = os by simp [withDfl, f_is_plain]]
theorem c_names_in (n : Nat) (os : List O) : (cxAt rs fuelW (n + 1)).call "names_in" os = runFn (cxAt rs fuelW n) f_names_in os := by
  rw [cl_names_in, show withDfl f_names_in os = os by simp [withDfl, f_names_in]]
theorem c_uses_of (n : Nat) (os : List O) : (cxAt rs fuelW (n + 1)).call "uses_of" os = runFn (cxAt rs fuelW n) f_uses_of os := by
  rw [cl_uses_of, show withDfl f_uses_of os = os by simp [withDfl, f_uses_of]]
theorem c_needs_of (n : Nat) (os : List O) : (cxAt rs fuelW (n + 1)).call "needs_of" os = runFn (cxAt rs fuelW n) f_needs_of os := by
  rw [cl_needs_of, show withDfl f_needs_of os = os by simp [withDfl, f_needs_of]]
theorem c_ordered (n : Nat) (os : List O) : (cxAt rs fuelW (n + 1)).call "ordered" os = runFn (cxAt rs fuelW n) f_ordered os := by
  rw [cl_ordered, show withDfl f_ordered os = os by simp [withDfl, f_ordered]]
theorem c_ring_of (n : Nat) (os : List O) : (cxAt rs fuelW (n + 1)).call "ring_of" os = runFn (cxAt rs fuelW n) f_ring_of os := by
  rw [cl_ring_of, show withDfl f_ring_of os = os by simp [withDfl, f_ring_of]]
theorem c_draw (n : Nat) (os : List O) : (cxAt rs fuelW (n + 1)).call "_law_draw" os = runFn (cxAt rs fuelW n) Std.f__law_draw os := by
  rw [cl__law_draw, show withDfl f__law_draw os = os by simp [withDfl, f__law_draw]]; rfl
theorem c_same (n : Nat) (os : List O) : (cxAt rs fuelW (n + 1)).call "_law_same" os = runFn (cxAt rs fuelW n) Std.f__law_same os := by
  rw [cl__law_same, show withDfl f__law_same os = os by simp [withDfl, f__law_same]]; rfl
theorem c_copy (n : Nat) (os : List O) : (cxAt rs fuelW (n + 1)).call "_law_copy" os = runFn (cxAt rs fuelW n) Std.f__law_copy os := by
  rw [cl__law_copy, show withDfl f__law_copy os = os by simp [withDfl, f__law_copy]]; rfl
theorem c_lpaths (n : Nat) (os : List O) : (cxAt rs fuelW (n + 1)).call "_law_paths" os = runFn (cxAt rs fuelW n) f__law_paths os := by
  rw [cl__law_paths, show withDfl f__law_paths os = os by simp [withDfl, f__law_paths]]
theorem c_luses_in (n : Nat) (os : List O) : (cxAt rs fuelW (n + 1)).call "_law_uses_in" os = runFn (cxAt rs fuelW n) f__law_uses_in os := by
  rw [cl__law_uses_in, show withDfl f__law_uses_in os = os by simp [withDfl, f__law_uses_in]]
theorem c_luses_of (n : Nat) (os : List O) : (cxAt rs fuelW (n + 1)).call "_law_uses_of" os = runFn (cxAt rs fuelW n) f__law_uses_of os := by
  rw [cl__law_uses_of, show withDfl f__law_uses_of os = os by simp [withDfl, f__law_uses_of]]
theorem c_lneeds (n : Nat) (os : List O) : (cxAt rs fuelW (n + 1)).call "_law_needs" os = runFn (cxAt rs fuelW n) f__law_needs os := by
  rw [cl__law_needs, show withDfl f__law_needs os = os by simp [withDfl, f__law_needs]]
theorem c_lordered (n : Nat) (os : List O) : (cxAt rs fuelW (n + 1)).call "_law_ordered" os = runFn (cxAt rs fuelW n) f__law_ordered os := by
  rw [cl__law_ordered, show withDfl f__law_ordered os = os by simp [withDfl, f__law_ordered]]
theorem c_ltold (n : Nat) (os : List O) : (cxAt rs fuelW (n + 1)).call "_law_told" os = runFn (cxAt rs fuelW n) f__law_told os := by
  rw [cl__law_told, show withDfl f__law_told os = os by simp [withDfl, f__law_told]]
theorem c_small (n : Nat) (os : List O) : (cxAt rs fuelW (n + 1)).call "_law_small_unit" os = runFn (cxAt rs fuelW n) f__law_small_unit os := by
  rw [cl__law_small_unit, show withDfl f__law_small_unit os = os by simp [withDfl, f__law_small_unit]]
/-! ### the data -/
abbrev NMZ : List Str := ["A", "B", "C2", "D", "Ee", "F", "G", "Zz"]
abbrev Pth := Str × Str
def okP (p : Pth) : Prop := p.1 ∈ NMZ ∧ p.2 ∈ (["t", "v"] : List Str)
theorem okS_NMZ : ∀ x ∈ NMZ, Std.okS x = true := by decide +kernel
theorem okS_tv : ∀ x ∈ (["t", "v"] : List Str), Std.okS x = true := by decide +kernel
theorem ok_of {x : Str} (h : Std.okS x = true) : PyData.strOk x = true := (Bool.and_eq_true_iff.mp h).2
theorem okP_1 {p : Pth} (h : okP p) : PyData.strOk p.1 = true := ok_of (okS_NMZ _ h.1)
theorem okP_2 {p : Pth} (h : okP p) : PyData.strOk p.2 = true := ok_of (okS_tv _ h.2)
abbrev pth (p : Pth) : D := .tuple [.str p.1, .str p.2]
abbrev tp (p : Pth) : D := .tuple [.str "path", pth p]
abbrev tl (p : Pth) : D := .tuple [.str "list", tp p]
abbrev tf (p : Pth) : D := .tuple [.str "fun", .str "int", tp p]
theorem sh_pth {p : Pth} (h : okP p) : SeqAt.shaped (pth p) = true := by
  have h1 := okP_1 h
  have h2 := okP_2 h
  simp [SeqAt.shaped, PyData.canLay0, PyData.canLayAll0, PyData.depth, PyData.depthAll, h1, h2]
theorem sh_pths {p : Pth} (h : okP p) : SeqAt.shaped (.list [pth p]) = true := by
  have h1 := okP_1 h
  have h2 := okP_2 h
  simp [SeqAt.shaped, PyData.canLay0, PyData.canLayAll0, PyData.depth, PyData.depthAll, h1, h2]
section
variable {n : Nat} {p : Pth} (h : okP p)
include h
theorem paths_tp : (cxAt rs fuelW (n + 1)).call "paths_in" [.val (tp p)] = .ok (.lst [pth p]) [.val (tp p)] := by
  simp [c_paths_in, f_paths_in]
theorem paths_int : (cxAt rs fuelW (n + 1)).call "paths_in" [.val (.str "int")] = .ok (.lst []) [.val (.str "int")] := by
  simp [c_paths_in, f_paths_in]
end
end K44

set_option Elab.async false
set_option linter.all false
set_option maxRecDepth 100000
set_option maxHeartbeats 8000000
/-! paths, uses of an expression -/
namespace K44
open PySem PySem.Spec L2 SW
open PyProof.Rows hiding St
theorem sh_nil : SeqAt.shaped (.list []) = true := by decide +kernel
section
variable {n : Nat} {p : Pth} (h : okP p)
include h
theorem pin_nil : inD (pth p) (.list []) = some false := by
  show (if eqOk (pth p) (.list []) = true then some (([] : List D).any fun z => PyData.eqv z (pth p)) else none) = _
  unfold eqOk
  rw [sh_pth h, sh_nil]
  rfl
theorem lc_p1 {a0 : Option O} : evE (cxAt rs fuelW (n + 1)) lc_paths_in_1 [a0, some (.lst []), some (.val (tp p)), none] = .ok (.vl (.lst [pth p])) [a0, some (.lst []), some (.val (tp p)), none] := by
  have e := paths_tp (n := n) h
  have hi := pin_nil h
  simp [-E_inD_1, lc_paths_in_1, e, hi, E_lcTurn_1, lcAll, lcL, sizeLine_eq]
theorem lc_p2 {a0 : Option O} : evE (cxAt rs fuelW (n + 1)) lc_paths_in_1 [a0, some (.lst []), some (.val (.str "int")), none] = .ok (.vl (.lst [])) [a0, some (.lst []), some (.val (.str "int")), none] := by
  have e := paths_int (n := n) h
  simp [lc_paths_in_1, e, lcAll, lcL]
theorem paths_tl : (cxAt rs fuelW (n + 2)).call "paths_in" [.val (tl p)] = .ok (.lst [pth p]) [.val (tl p)] := by
  have e := lc_p1 (n := n) h (a0 := some (.val (tl p)))
  have ef : evS (cxAt rs fuelW (n + 1)) 1 fo_paths_in_2 [some (.val (tl p)), some (.lst []), none, none] = .nx [some (.val (tl p)), some (.lst [pth p]), some (.val (tp p)), none] := by
    refine (Std.for_val (x := .vl (.val (.tuple [tp p]))) (ds := [tp p]) rfl rfl rfl).trans ?_
    refine (Std.foL_nx (ρ' := [some (.val (tl p)), some (.lst []), some (.val (tp p)), none]) rfl ?_).trans rfl
    simp [e, catOk, sizeLine_eq]
  rw [c_paths_in]
  simp [f_paths_in, ef]
theorem paths_tf : (cxAt rs fuelW (n + 2)).call "paths_in" [.val (tf p)] = .ok (.lst [pth p]) [.val (tf p)] := by
  have e := lc_p1 (n := n) h (a0 := some (.val (tf p)))
  have e2 := lc_p2 (n := n) h (a0 := some (.val (tf p)))
  have ef : evS (cxAt rs fuelW (n + 1)) 1 fo_paths_in_2 [some (.val (tf p)), some (.lst []), none, none] = .nx [some (.val (tf p)), some (.lst [pth p]), some (.val (tp p)), none] := by
    refine (Std.for_val (x := .vl (.val (.tuple [.str "int", tp p]))) (ds := [.str "int", tp p]) rfl rfl rfl).trans ?_
    refine (Std.foL_nx (ρ' := [some (.val (tf p)), some (.lst []), some (.val (.str "int")), none]) (ρ'' := [some (.val (tf p)), some (.lst []), some (.val (.str "int")), none]) rfl ?_).trans ?_
    · simp [e2, catOk, sizeLine_eq]
    refine (Std.foL_nx (ρ' := [some (.val (tf p)), some (.lst []), some (.val (tp p)), none]) rfl ?_).trans rfl
    simp [e, catOk, sizeLine_eq]
  rw [c_paths_in]
  simp [f_paths_in, ef]
/-! the law's own -/
def whb : List MS := match wh__law_paths_1 with
  | .whl _ b => b
  | _ => []
def wht : ME := match wh__law_paths_1 with
  | .whl t _ => t
  | _ => .bad
omit h in
theorem wh_eq {c : SW.Ctx} {ρ : Rho} : evS c 1 wh__law_paths_1 ρ = whL (evE c wht) (evSs c 1 whb) c.W ρ := rfl
theorem wh_p {c : SW.Ctx} {a0 a3 : Option O} : evSs c 1 whb [a0, some (.lst []), some (.lst [tp p]), a3] = .nx [a0, some (.lst [pth p]), some (.lst []), some (.val (tp p))] := by
  have hi := pin_nil h
  simp [-E_inD_1, whb, wh__law_paths_1, hi, catOk, sizeLine_eq, mutD, seqIndex?]
omit h in
theorem wh_t {c : SW.Ctx} {ρ : Rho} {a0 a1 a3 : Option O} {ds : List D} : evE c wht [a0, a1, some (.lst ds), a3] = .ok (.vl (.val (.bool (decide (0 < ds.length))))) [a0, a1, some (.lst ds), a3] := by
  simp [wht, wh__law_paths_1]
end
end K44

set_option Elab.async false
set_option linter.all false
set_option maxRecDepth 100000
set_option maxHeartbeats 8000000
namespace K44
open PySem PySem.Spec L2 SW
open PyProof.Rows hiding St
section
variable {n : Nat} {p : Pth} (h : okP p)
theorem wh_int {c : SW.Ctx} {a0 a1 a3 : Option O} {r : List D} : evSs c 1 whb [a0, a1, some (.lst (.str "int" :: r)), a3] = .nx [a0, a1, some (.lst r), some (.val (.str "int"))] := by
  simp [whb, wh__law_paths_1, mutD, seqIndex?]
theorem wh_tl {c : SW.Ctx} {a0 a1 a3 : Option O} : evSs c 1 whb [a0, a1, some (.lst [tl p]), a3] = .nx [a0, a1, some (.lst [tp p]), some (.val (tl p))] := by
  simp [whb, wh__law_paths_1, mutD, seqIndex?, catOk, sizeLine_eq, cutL, HT.sIx]
theorem wh_tf {c : SW.Ctx} {a0 a1 a3 : Option O} : evSs c 1 whb [a0, a1, some (.lst [tf p]), a3] = .nx [a0, a1, some (.lst [.str "int", tp p]), some (.val (tf p))] := by
  simp [whb, wh__law_paths_1, mutD, seqIndex?, catOk, sizeLine_eq, cutL, HT.sIx]
theorem wh_eq' {n : Nat} {ρ : Rho} : evS (cxAt rs fuelW n) 1 wh__law_paths_1 ρ = whL (evE (cxAt rs fuelW n) wht) (evSs (cxAt rs fuelW n) 1 whb) (99999 + 1) ρ := rfl
theorem wh_end {c : SW.Ctx} {a0 a1 a3 : Option O} {m : Nat} : whL (evE c wht) (evSs c 1 whb) (m + 1) [a0, a1, some (.lst []), a3] = .nx [a0, a1, some (.lst []), a3] := Std.whL_ff (wh_t (ρ := []))
theorem wh_go {c : SW.Ctx} {a0 a1 a3 : Option O} {d : D} {r : List D} {m : Nat} {ρ' : Rho} (e : evSs c 1 whb [a0, a1, some (.lst (d :: r)), a3] = .nx ρ') : whL (evE c wht) (evSs c 1 whb) (m + 1) [a0, a1, some (.lst (d :: r)), a3] = whL (evE c wht) (evSs c 1 whb) m ρ' :=
  Std.whL_tt ((wh_t (ρ := [])).trans (by simp)) e
include h
theorem lp_tp : (cxAt rs fuelW (n + 1)).call "_law_paths" [.val (tp p)] = .ok (.lst [pth p]) [.val (tp p)] := by
  have ew : evS (cxAt rs fuelW n) 1 wh__law_paths_1 [some (.val (tp p)), some (.lst []), some (.lst [tp p]), none] = .nx [some (.val (tp p)), some (.lst [pth p]), some (.lst []), some (.val (tp p))] := by
    rw [wh_eq', wh_go (wh_p h)]
    exact wh_end (m := 99998)
  rw [c_lpaths]
  simp [f__law_paths, ew]
theorem lp_tl : (cxAt rs fuelW (n + 1)).call "_law_paths" [.val (tl p)] = .ok (.lst [pth p]) [.val (tl p)] := by
  have ew : evS (cxAt rs fuelW n) 1 wh__law_paths_1 [some (.val (tl p)), some (.lst []), some (.lst [tl p]), none] = .nx [some (.val (tl p)), some (.lst [pth p]), some (.lst []), some (.val (tp p))] := by
    rw [wh_eq', wh_go wh_tl]
    show whL _ _ (99998 + 1) _ = _
    rw [wh_go (wh_p h)]
    exact wh_end (m := 99997)
  rw [c_lpaths]
  simp [f__law_paths, ew]
theorem lp_tf : (cxAt rs fuelW (n + 1)).call "_law_paths" [.val (tf p)] = .ok (.lst [pth p]) [.val (tf p)] := by
  have ew : evS (cxAt rs fuelW n) 1 wh__law_paths_1 [some (.val (tf p)), some (.lst []), some (.lst [tf p]), none] = .nx [some (.val (tf p)), some (.lst [pth p]), some (.lst []), some (.val (tp p))] := by
    rw [wh_eq', wh_go wh_tf]
    show whL _ _ (99998 + 1) _ = _
    rw [wh_go wh_int]
    show whL _ _ (99997 + 1) _ = _
    rw [wh_go (wh_p h)]
    exact wh_end (m := 99996)
  rw [c_lpaths]
  simp [f__law_paths, ew]
omit h in
theorem lp_int : (cxAt rs fuelW (n + 1)).call "_law_paths" [.val (.str "int")] = .ok (.lst []) [.val (.str "int")] := by
  have ew : evS (cxAt rs fuelW n) 1 wh__law_paths_1 [some (.val (.str "int")), some (.lst []), some (.lst [.str "int"]), none] = .nx [some (.val (.str "int")), some (.lst []), some (.lst []), some (.val (.str "int"))] := by
    rw [wh_eq', wh_go wh_int]
    exact wh_end (m := 99998)
  rw [c_lpaths]
  simp [f__law_paths, ew]
end
/-! ### expressions -/
abbrev ev (p : Pth) : D := .tuple [.str "var", pth p]
abbrev ex : D := .tuple [.str "var", .tuple [.str "x"]]
abbrev ea (p : Pth) : D := .tuple [.str "add", .int 1, ev p]
abbrev en (p : Pth) : D := .tuple [.str "nil", tf p]
abbrev ef (p : Pth) : D := .tuple [.str "fun", .str "x", tp p, ex]
abbrev eca (p : Pth) : D := .tuple [.str "call", ev p, ex]
abbrev ec (p : Pth) : D := .tuple [.str "fun", .str "x", .str "int", eca p]
abbrev us (k : Str) (p : Pth) : D := .tuple [.str k, pth p]
section
variable {n : Nat} {p : Pth} (h : okP p)
include h
theorem plain_ok {d : D} : True := trivial
end
theorem isp_int {n : Nat} : (cxAt rs fuelW (n + 1)).call "is_plain" [.val (.int 1)] = .ok (.val (.bool true)) [.val (.int 1)] := by
  rw [c_is_plain]
  simp [f_is_plain]
theorem eqv_ts (ds : List D) (x : Str) : PyData.eqv (.tuple ds) (.str x) = false := by rw [PyData.eqv.eq_def]
theorem isp_tup {n : Nat} {ds : List D} (h : SeqAt.shaped (.tuple ds) = true) : (cxAt rs fuelW (n + 1)).call "is_plain" [.val (.tuple ds)] = .ok (.val (.bool false)) [.val (.tuple ds)] := by
  rw [c_is_plain]
  have e := eqv_ts ds "unit"
  simp [f_is_plain, h, e]
end K44

set_option Elab.async false
set_option linter.all false
set_option maxRecDepth 100000
set_option maxHeartbeats 8000000
namespace K44
open PySem PySem.Spec L2 SW
open PyProof.Rows hiding St
section
variable {n : Nat} {p : Pth} (h : okP p)
theorem sh_ex : SeqAt.shaped ex = true := by decide +kernel
theorem n_int : (cxAt rs fuelW (n + 2)).call "names_in" [.val (.int 1)] = .ok (.lst []) [.val (.int 1)] := by
  have e := isp_int (n := n)
  rw [c_names_in]
  simp [f_names_in, e]
theorem n_ex : (cxAt rs fuelW (n + 2)).call "names_in" [.val ex] = .ok (.lst []) [.val ex] := by
  have e := isp_tup (n := n) sh_ex
  rw [c_names_in]
  simp [f_names_in, e]
include h
theorem sh_ev : SeqAt.shaped (ev p) = true := by
  have h1 := okP_1 h
  have h2 := okP_2 h
  simp [SeqAt.shaped, PyData.canLay0, PyData.canLayAll0, PyData.depth, PyData.depthAll, h1, h2]
theorem sh_ea : SeqAt.shaped (ea p) = true := by
  have h1 := okP_1 h
  have h2 := okP_2 h
  simp [SeqAt.shaped, PyData.canLay0, PyData.canLayAll0, PyData.depth, PyData.depthAll, h1, h2]
theorem sh_en : SeqAt.shaped (en p) = true := by
  have h1 := okP_1 h
  have h2 := okP_2 h
  simp [SeqAt.shaped, PyData.canLay0, PyData.canLayAll0, PyData.depth, PyData.depthAll, h1, h2]
theorem sh_ef : SeqAt.shaped (ef p) = true := by
  have h1 := okP_1 h
  have h2 := okP_2 h
  simp [SeqAt.shaped, PyData.canLay0, PyData.canLayAll0, PyData.depth, PyData.depthAll, h1, h2]
theorem sh_eca : SeqAt.shaped (eca p) = true := by
  have h1 := okP_1 h
  have h2 := okP_2 h
  simp [SeqAt.shaped, PyData.canLay0, PyData.canLayAll0, PyData.depth, PyData.depthAll, h1, h2]
theorem sh_ec : SeqAt.shaped (ec p) = true := by
  have h1 := okP_1 h
  have h2 := okP_2 h
  simp [SeqAt.shaped, PyData.canLay0, PyData.canLayAll0, PyData.depth, PyData.depthAll, h1, h2]
theorem n_ev : (cxAt rs fuelW (n + 2)).call "names_in" [.val (ev p)] = .ok (.lst [us "value" p]) [.val (ev p)] := by
  have e := isp_tup (n := n) (sh_ev h)
  rw [c_names_in]
  simp [f_names_in, e]
theorem n_ea : (cxAt rs fuelW (n + 3)).call "names_in" [.val (ea p)] = .ok (.lst [us "value" p]) [.val (ea p)] := by
  have e := isp_tup (n := n + 1) (sh_ea h)
  have e1 := n_int (n := n)
  have e2 := n_ev (n := n) h
  have el : evS (cxAt rs fuelW (n + 2)) 1 fo_names_in_3 [some (.val (ea p)), none, some (.lst []), none] = .nx [some (.val (ea p)), none, some (.lst [us "value" p]), some (.val (ev p))] := by
    refine (Std.for_val (x := .vl (.val (.tuple [.int 1, ev p]))) (ds := [.int 1, ev p]) rfl rfl rfl).trans ?_
    refine (Std.foL_nx (ρ' := [some (.val (ea p)), none, some (.lst []), some (.val (.int 1))]) (ρ'' := [some (.val (ea p)), none, some (.lst []), some (.val (.int 1))]) rfl ?_).trans ?_
    · simp [e1, catOk, sizeLine_eq]
    refine (Std.foL_nx (ρ' := [some (.val (ea p)), none, some (.lst []), some (.val (ev p))]) rfl ?_).trans rfl
    simp [e2, catOk, sizeLine_eq]
  rw [c_names_in]
  simp [f_names_in, e, el]
theorem n_eca : (cxAt rs fuelW (n + 3)).call "names_in" [.val (eca p)] = .ok (.lst [us "value" p]) [.val (eca p)] := by
  have e := isp_tup (n := n + 1) (sh_eca h)
  have e1 := n_ex (n := n)
  have e2 := n_ev (n := n) h
  have el : evS (cxAt rs fuelW (n + 2)) 1 fo_names_in_3 [some (.val (eca p)), none, some (.lst []), none] = .nx [some (.val (eca p)), none, some (.lst [us "value" p]), some (.val ex)] := by
    refine (Std.for_val (x := .vl (.val (.tuple [ev p, ex]))) (ds := [ev p, ex]) rfl rfl rfl).trans ?_
    refine (Std.foL_nx (ρ' := [some (.val (eca p)), none, some (.lst []), some (.val (ev p))]) (ρ'' := [some (.val (eca p)), none, some (.lst [us "value" p]), some (.val (ev p))]) rfl ?_).trans ?_
    · simp [e2, catOk, sizeLine_eq]
    refine (Std.foL_nx (ρ' := [some (.val (eca p)), none, some (.lst [us "value" p]), some (.val ex)]) rfl ?_).trans rfl
    simp [e1, catOk, sizeLine_eq]
  rw [c_names_in]
  simp [f_names_in, e, el]
theorem n_en : (cxAt rs fuelW (n + 3)).call "names_in" [.val (en p)] = .ok (.lst [us "type" p]) [.val (en p)] := by
  have e := isp_tup (n := n + 1) (sh_en h)
  have e1 := paths_tf (n := n) h
  have el : evE (cxAt rs fuelW (n + 2)) lc_names_in_1 [some (.val (en p)), none, none, none] = .ok (.vl (.lst [us "type" p])) [some (.val (en p)), none, none, none] := by
    simp [lc_names_in_1, e1, E_lcTurn_1, lcAll, lcL, sizeLine_eq]
  rw [c_names_in]
  simp [f_names_in, e, el]
theorem n_ef : (cxAt rs fuelW (n + 3)).call "names_in" [.val (ef p)] = .ok (.lst [us "type" p]) [.val (ef p)] := by
  have e := isp_tup (n := n + 1) (sh_ef h)
  have e1 := paths_tp (n := n + 1) h
  have e2 := n_ex (n := n)
  have el : evE (cxAt rs fuelW (n + 2)) lc_names_in_2 [some (.val (ef p)), none, some (.lst []), none] = .ok (.vl (.lst [us "type" p])) [some (.val (ef p)), none, some (.lst []), none] := by
    simp [lc_names_in_2, e1, E_lcTurn_1, lcAll, lcL, sizeLine_eq]
  rw [c_names_in]
  simp [f_names_in, e, el, e2, catOk, sizeLine_eq]
theorem n_ec : (cxAt rs fuelW (n + 4)).call "names_in" [.val (ec p)] = .ok (.lst [us "value" p]) [.val (ec p)] := by
  have e := isp_tup (n := n + 2) (sh_ec h)
  have e1 := paths_int (n := n + 2) h
  have e2 := n_eca (n := n) h
  have el : evE (cxAt rs fuelW (n + 3)) lc_names_in_2 [some (.val (ec p)), none, some (.lst []), none] = .ok (.vl (.lst [])) [some (.val (ec p)), none, some (.lst []), none] := by
    simp [lc_names_in_2, e1, E_lcTurn_1, lcAll, lcL, sizeLine_eq]
  rw [c_names_in]
  simp [f_names_in, e, el, e2, catOk, sizeLine_eq]
end
end K44

set_option Elab.async false
set_option linter.all false
set_option maxRecDepth 100000
set_option maxHeartbeats 8000000
namespace K44
open PySem PySem.Spec L2 SW
open PyProof.Rows hiding St
section
variable {n : Nat} {p : Pth} (h : okP p)
theorem in_nf (x : Str) (hx : PyData.strOk x = true) : inD (.str x) (.tuple [.str "nil", .str "fun"]) = some (x == "nil" || x == "fun") := by
  have e1 : SeqAt.shaped (.tuple [.str "nil", .str "fun"]) = true := by decide +kernel
  have e2 : SeqAt.shaped (.str x) = true := by simp [SeqAt.shaped, PyData.canLay0, PyData.depth, hx]
  show (if eqOk (.str x) (.tuple [.str "nil", .str "fun"]) = true then some (([.str "nil", .str "fun"] : List D).any fun z => PyData.eqv z (.str x)) else none) = _
  unfold eqOk
  rw [e1, e2]
  have c1 : ((Str.ofString "nil") == x) = (x == Str.ofString "nil") := by rw [Bool.eq_iff_iff, beq_iff_eq, beq_iff_eq]; exact eq_comm
  have c2 : ((Str.ofString "fun") == x) = (x == Str.ofString "fun") := by rw [Bool.eq_iff_iff, beq_iff_eq, beq_iff_eq]; exact eq_comm
  simp [c1, c2]
theorem in_nf1 : inD (.str "nil") (.tuple [.str "nil", .str "fun"]) = some true := by rw [in_nf _ (by simp)]; simp
theorem in_nf2 : inD (.str "fun") (.tuple [.str "nil", .str "fun"]) = some true := by rw [in_nf _ (by simp)]; simp
theorem in_nf3 : inD (.str "add") (.tuple [.str "nil", .str "fun"]) = some false := by rw [in_nf _ (by simp), wne_add_nil, wne_add_fun]; rfl
theorem in_nf4 : inD (.str "call") (.tuple [.str "nil", .str "fun"]) = some false := by rw [in_nf _ (by simp), wne_call_nil, wne_call_fun]; rfl
theorem l_int : (cxAt rs fuelW (n + 1)).call "_law_uses_in" [.val (.int 1)] = .ok (.lst []) [.val (.int 1)] := by
  rw [c_luses_in]
  simp [f__law_uses_in]
theorem l_ex : (cxAt rs fuelW (n + 1)).call "_law_uses_in" [.val ex] = .ok (.lst []) [.val ex] := by
  rw [c_luses_in]
  simp [f__law_uses_in]
include h
theorem l_ev : (cxAt rs fuelW (n + 1)).call "_law_uses_in" [.val (ev p)] = .ok (.lst [us "value" p]) [.val (ev p)] := by
  rw [c_luses_in]
  simp [f__law_uses_in]
theorem l_ea : (cxAt rs fuelW (n + 2)).call "_law_uses_in" [.val (ea p)] = .ok (.lst [us "value" p]) [.val (ea p)] := by
  have e1 := l_int (n := n)
  have e2 := l_ev (n := n) h
  have el : evS (cxAt rs fuelW (n + 1)) 1 fo__law_uses_in_2 [some (.val (ea p)), none, none, none, some (.lst []), none] = .nx [some (.val (ea p)), none, none, none, some (.lst [us "value" p]), some (.val (ev p))] := by
    refine (Std.for_val (x := .vl (.val (.tuple [.int 1, ev p]))) (ds := [.int 1, ev p]) rfl rfl rfl).trans ?_
    refine (Std.foL_nx (ρ' := [some (.val (ea p)), none, none, none, some (.lst []), some (.val (.int 1))]) (ρ'' := [some (.val (ea p)), none, none, none, some (.lst []), some (.val (.int 1))]) rfl ?_).trans ?_
    · simp [e1, catOk, sizeLine_eq]
    refine (Std.foL_nx (ρ' := [some (.val (ea p)), none, none, none, some (.lst []), some (.val (ev p))]) rfl ?_).trans rfl
    simp [e2, catOk, sizeLine_eq]
  rw [c_luses_in]
  simp [-E_inD_2, f__law_uses_in, in_nf3, el]
theorem l_eca : (cxAt rs fuelW (n + 2)).call "_law_uses_in" [.val (eca p)] = .ok (.lst [us "value" p]) [.val (eca p)] := by
  have e1 := l_ex (n := n)
  have e2 := l_ev (n := n) h
  have el : evS (cxAt rs fuelW (n + 1)) 1 fo__law_uses_in_2 [some (.val (eca p)), none, none, none, some (.lst []), none] = .nx [some (.val (eca p)), none, none, none, some (.lst [us "value" p]), some (.val ex)] := by
    refine (Std.for_val (x := .vl (.val (.tuple [ev p, ex]))) (ds := [ev p, ex]) rfl rfl rfl).trans ?_
    refine (Std.foL_nx (ρ' := [some (.val (eca p)), none, none, none, some (.lst []), some (.val (ev p))]) (ρ'' := [some (.val (eca p)), none, none, none, some (.lst [us "value" p]), some (.val (ev p))]) rfl ?_).trans ?_
    · simp [e2, catOk, sizeLine_eq]
    refine (Std.foL_nx (ρ' := [some (.val (eca p)), none, none, none, some (.lst [us "value" p]), some (.val ex)]) rfl ?_).trans rfl
    simp [e1, catOk, sizeLine_eq]
  rw [c_luses_in]
  simp [-E_inD_2, f__law_uses_in, in_nf4, el]
theorem l_en : (cxAt rs fuelW (n + 2)).call "_law_uses_in" [.val (en p)] = .ok (.lst [us "type" p]) [.val (en p)] := by
  have e1 := lp_tf (n := n) h
  have el : evE (cxAt rs fuelW (n + 1)) lc__law_uses_in_1 [some (.val (en p)), some (.val (tf p)), some (.lst []), none, none, none] = .ok (.vl (.lst [us "type" p])) [some (.val (en p)), some (.val (tf p)), some (.lst []), none, none, none] := by
    simp [lc__law_uses_in_1, e1, E_lcTurn_1, lcAll, lcL, sizeLine_eq]
  rw [c_luses_in]
  simp [-E_inD_2, f__law_uses_in, in_nf1, el, catOk, sizeLine_eq]
theorem l_ef : (cxAt rs fuelW (n + 2)).call "_law_uses_in" [.val (ef p)] = .ok (.lst [us "type" p]) [.val (ef p)] := by
  have e1 := lp_tp (n := n) h
  have e2 := l_ex (n := n)
  have el : evE (cxAt rs fuelW (n + 1)) lc__law_uses_in_1 [some (.val (ef p)), some (.val (tp p)), some (.lst []), none, none, none] = .ok (.vl (.lst [us "type" p])) [some (.val (ef p)), some (.val (tp p)), some (.lst []), none, none, none] := by
    simp [lc__law_uses_in_1, e1, E_lcTurn_1, lcAll, lcL, sizeLine_eq]
  rw [c_luses_in]
  simp [-E_inD_2, f__law_uses_in, in_nf2, el, e2, catOk, sizeLine_eq]
theorem l_ec : (cxAt rs fuelW (n + 3)).call "_law_uses_in" [.val (ec p)] = .ok (.lst [us "value" p]) [.val (ec p)] := by
  have e1 := lp_int (n := n + 1)
  have e2 := l_eca (n := n) h
  have el : evE (cxAt rs fuelW (n + 2)) lc__law_uses_in_1 [some (.val (ec p)), some (.val (.str "int")), some (.lst [us "value" p]), none, none, none] = .ok (.vl (.lst [])) [some (.val (ec p)), some (.val (.str "int")), some (.lst [us "value" p]), none, none, none] := by
    simp [lc__law_uses_in_1, e1, E_lcTurn_1, lcAll, lcL, sizeLine_eq]
  rw [c_luses_in]
  simp [-E_inD_2, f__law_uses_in, in_nf2, el, e2, catOk, sizeLine_eq]
end
/-! ### items -/
inductive Kd where
  | ty | vt | va | vn | vf | vc
structure It where
  kd : Kd
  k : Nat
  p : Pth
def Kd.u : Kd → Str
  | .ty => "type"
  | .vt => "type"
  | .va => "value"
  | .vn => "type"
  | .vf => "type"
  | .vc => "value"
def vn (k : Nat) : Str := (Str.ofString "v") ++ Str.ofString (toString (k : Int))
def tn (k : Nat) : Str := (Str.ofString "t") ++ Str.ofString (toString (k : Int))
def It.D (i : It) : PyData := match i.kd with
  | .ty => .tuple [.str "type", .str (tn i.k), tl i.p, .bool true]
  | .vt => .tuple [.str "value", .str (vn i.k), tp i.p, .int 1]
  | .va => .tuple [.str "value", .str (vn i.k), .none, ea i.p]
  | .vn => .tuple [.str "value", .str (vn i.k), .none, en i.p]
  | .vf => .tuple [.str "value", .str (vn i.k), .none, ef i.p]
  | .vc => .tuple [.str "value", .str (vn i.k), .none, ec i.p]
def It.ok (i : It) : Prop := i.k < 4 ∧ okP i.p
def It.us (i : It) : PyData := K44.us i.kd.u i.p
structure Unt where
  nm : Str
  its : List It
def Unt.D (u : Unt) : PyData := .tuple [.str "unit", .str u.nm, .tuple (u.its.map It.D)]
def Unt.ok (u : Unt) : Prop := u.nm ∈ NMZ ∧ u.its.length ≤ 4 ∧ ∀ i ∈ u.its, i.ok
theorem tyName_tup (ds : List PyData) : tyName (.tuple ds) = "tuple" := rfl
end K44

set_option Elab.async false
set_option linter.all false
set_option maxRecDepth 100000
set_option maxHeartbeats 8000000
namespace K44
open PySem PySem.Spec L2 SW
open PyProof.Rows hiding St
def fub : List MS := match fo_uses_of_2 with
  | .forS _ _ _ b => b
  | _ => []
def lub : List MS := match fo__law_uses_of_2 with
  | .forS _ _ _ b => b
  | _ => []
section
variable {n : Nat} {i : It} (h : i.ok)
theorem cat10 {a b : Nat} (ha : a ≤ 1000) (hb : b ≤ 1000) : catOk a b = true := decide_eq_true (by rw [sizeLine_eq]; omega)
theorem lc_u1 {a0 a1 a2 a3 a5 : Option O} {d : D} {p : Pth} (e : (cxAt rs fuelW (n + 1)).call "paths_in" [.val d] = .ok (.lst [pth p]) [.val d]) : evE (cxAt rs fuelW (n + 1)) lc_uses_of_1 [a0, a1, a2, a3, some (.val d), a5, none] = .ok (.vl (.lst [us "type" p])) [a0, a1, a2, a3, some (.val d), a5, none] := by
  simp [lc_uses_of_1, e, E_lcTurn_1, lcAll, lcL, sizeLine_eq]
theorem lc_l1 {a0 a1 a2 a3 a5 : Option O} {d : D} {p : Pth} (e : (cxAt rs fuelW (n + 1)).call "_law_paths" [.val d] = .ok (.lst [pth p]) [.val d]) : evE (cxAt rs fuelW (n + 1)) lc__law_uses_of_1 [a0, a1, a2, a3, some (.val d), a5, none] = .ok (.vl (.lst [us "type" p])) [a0, a1, a2, a3, some (.val d), a5, none] := by
  simp [lc__law_uses_of_1, e, E_lcTurn_1, lcAll, lcL, sizeLine_eq]
include h
theorem fu_turn {a0 a2 a3 a4 a5 : Option O} {F : List D} (hF : F.length ≤ 20) : ∃ ρ1 b2 b3 b4 b5, bindT (.tup [2, 3, 4, 5]) (.val i.D) [a0, some (.lst F), a2, a3, a4, a5, none] = some ρ1 ∧ evSs (cxAt rs fuelW (n + 5)) 1 fub ρ1 = .nx [a0, some (.lst (F ++ [i.us])), some (.val b2), some (.val b3), some (.val b4), some (.val b5), none] := by
  obtain ⟨kd, k, p⟩ := i
  have c1 := cat10 (a := F.length) (b := 1) (by omega) (by omega)
  have c2 := cat10 (a := F.length + 1) (b := 0) (by omega) (by omega)
  obtain ⟨hk, hp⟩ := h
  have hp : okP p := hp
  cases kd with
  | ty =>
    have e := lc_u1 (n := n + 4) (a0 := a0) (a1 := some (.lst F)) (a2 := some (.val (.str "type"))) (a3 := some (.val (.str (tn k)))) (a5 := some (.val (.bool true))) (paths_tl (n := n + 3) hp)
    exact ⟨_, .str "type", .str (tn k), tl p, .bool true, rfl, by simp [fub, fo_uses_of_2, e, c1]; rfl⟩
  | vt =>
    have e := lc_u1 (n := n + 4) (a0 := a0) (a1 := some (.lst F)) (a2 := some (.val (.str "value"))) (a3 := some (.val (.str (vn k)))) (a5 := some (.val (.int 1))) (paths_tp (n := n + 4) hp)
    have e2 := n_int (n := n + 3)
    exact ⟨_, .str "value", .str (vn k), tp p, .int 1, rfl, by simp [fub, fo_uses_of_2, e, e2, c1, c2]; rfl⟩
  | va =>
    have e2 := n_ea (n := n + 2) hp
    exact ⟨_, .str "value", .str (vn k), .none, ea p, rfl, by simp [fub, fo_uses_of_2, e2, c1]; rfl⟩
  | vn =>
    have e2 := n_en (n := n + 2) hp
    exact ⟨_, .str "value", .str (vn k), .none, en p, rfl, by simp [fub, fo_uses_of_2, e2, c1]; rfl⟩
  | vf =>
    have e2 := n_ef (n := n + 2) hp
    exact ⟨_, .str "value", .str (vn k), .none, ef p, rfl, by simp [fub, fo_uses_of_2, e2, c1]; rfl⟩
  | vc =>
    have e2 := n_ec (n := n + 1) hp
    exact ⟨_, .str "value", .str (vn k), .none, ec p, rfl, by simp [fub, fo_uses_of_2, e2, c1]; rfl⟩
theorem lu_turn {a0 a2 a3 a4 a5 : Option O} {F : List D} (hF : F.length ≤ 20) : ∃ ρ1 b2 b3 b4 b5, bindT (.tup [2, 3, 4, 5]) (.val i.D) [a0, some (.lst F), a2, a3, a4, a5, none] = some ρ1 ∧ evSs (cxAt rs fuelW (n + 5)) 1 lub ρ1 = .nx [a0, some (.lst (F ++ [i.us])), some (.val b2), some (.val b3), some (.val b4), some (.val b5), none] := by
  obtain ⟨kd, k, p⟩ := i
  have c1 := cat10 (a := F.length) (b := 1) (by omega) (by omega)
  have c2 := cat10 (a := F.length + 1) (b := 0) (by omega) (by omega)
  have c0 := cat10 (a := F.length) (b := 0) (by omega) (by omega)
  obtain ⟨hk, hp⟩ := h
  have hp : okP p := hp
  cases kd with
  | ty =>
    have e := lc_l1 (n := n + 4) (a0 := a0) (a1 := some (.lst F)) (a2 := some (.val (.str "type"))) (a3 := some (.val (.str (tn k)))) (a5 := some (.val (.bool true))) (lp_tl (n := n + 4) hp)
    exact ⟨_, .str "type", .str (tn k), tl p, .bool true, rfl, by simp [lub, fo__law_uses_of_2, e, c1, c2]; rfl⟩
  | vt =>
    have e := lc_l1 (n := n + 4) (a0 := a0) (a1 := some (.lst F)) (a2 := some (.val (.str "value"))) (a3 := some (.val (.str (vn k)))) (a5 := some (.val (.int 1))) (lp_tp (n := n + 4) hp)
    have e2 := l_int (n := n + 4)
    exact ⟨_, .str "value", .str (vn k), tp p, .int 1, rfl, by simp [lub, fo__law_uses_of_2, e, e2, c1, c2]; rfl⟩
  | va =>
    have e2 := l_ea (n := n + 3) hp
    exact ⟨_, .str "value", .str (vn k), .none, ea p, rfl, by simp [lub, fo__law_uses_of_2, e2, c0, c1]; rfl⟩
  | vn =>
    have e2 := l_en (n := n + 3) hp
    exact ⟨_, .str "value", .str (vn k), .none, en p, rfl, by simp [lub, fo__law_uses_of_2, e2, c0, c1]; rfl⟩
  | vf =>
    have e2 := l_ef (n := n + 3) hp
    exact ⟨_, .str "value", .str (vn k), .none, ef p, rfl, by simp [lub, fo__law_uses_of_2, e2, c0, c1]; rfl⟩
  | vc =>
    have e2 := l_ec (n := n + 2) hp
    exact ⟨_, .str "value", .str (vn k), .none, ec p, rfl, by simp [lub, fo__law_uses_of_2, e2, c0, c1]; rfl⟩
end
end K44

set_option Elab.async false
set_option linter.all false
set_option maxRecDepth 100000
set_option maxHeartbeats 8000000
/-! uses and needs of a unit -/
namespace K44
open PySem PySem.Spec L2 SW
open PyProof.Rows hiding St
theorem strsOf_enc (l : List (List Str)) (ne : l ≠ []) : strsOf (l.map encT) = none := by
  cases l with
  | nil => exact absurd rfl ne
  | cons k l => rfl
theorem strsOf_str : ∀ k : List Str, strsOf (k.map PyData.str) = some k
  | [] => rfl
  | x :: k => by rw [List.map_cons]; simp [strsOf_str k]
theorem tupsOf_enc : ∀ l : List (List Str), (∀ k ∈ l, k ≠ []) → tupsOf (l.map encT) = some l
  | [], _ => rfl
  | k :: l, h => by
    have ih := tupsOf_enc l fun x hx => h x (by simp [hx])
    have e := strsOf_str k
    rw [List.map_cons]
    show (match strsOf (k.map PyData.str), tupsOf (l.map encT) with
      | some k, some ks => if k ≠ [] then some (k :: ks) else none
      | _, _ => none) = _
    rw [e, ih]
    dsimp only
    rw [if_pos (h k (by simp))]
theorem srtSet_enc {l : List (List Str)} (h : ∀ k ∈ l, k ≠ []) : srtSetD (l.map encT) = some (.lst (srtT l)) := by
  cases l with
  | nil => simp [srtSetD, srtT]
  | cons k l =>
    unfold srtSetD
    rw [strsOf_enc _ (by simp), tupsOf_enc _ h]
    rfl
/-- as rows -/
def SU (l : List (List Str)) : List (List Str) := (nubT l).mergeSort fun a b => PySem.W.dataLe false id (encT a) (encT b)
theorem srtT_SU (l : List (List Str)) : srtT l = (SU l).map encT := by
  unfold srtT SU
  exact (List.map_mergeSort (r := fun a b => PySem.W.dataLe false id (encT a) (encT b)) (s := PySem.W.dataLe false id) (f := encT) (l := nubT l) fun a _ b _ => rfl).symm
theorem SU_mem {l : List (List Str)} {k : List Str} (h : k ∈ SU l) : k ∈ l := (mem_nubT l k).mp ((List.mergeSort_perm _ _).mem_iff.mp h)
theorem nub_len : ∀ l : List (List Str), (nubT l).length ≤ l.length
  | [] => Nat.le_refl _
  | x :: r => by
    have ih := nub_len r
    simp only [nubT]
    split
    · rw [List.length_cons]; omega
    · rw [List.length_cons, List.length_cons]; omega
theorem SU_len (l : List (List Str)) : (SU l).length ≤ l.length := by
  unfold SU
  rw [List.length_mergeSort]
  exact nub_len l
theorem nubS_len : ∀ l : List Str, (nubS l).length ≤ l.length
  | [] => Nat.le_refl _
  | x :: r => by
    have ih := nubS_len r
    simp only [nubS]
    split
    · rw [List.length_cons]; omega
    · rw [List.length_cons, List.length_cons]; omega
def It.row (i : It) : List Str := [i.p.1, i.kd.u, i.p.2]
def Unt.rows (u : Unt) : List (List Str) := u.its.map It.row
def Unt.uses (u : Unt) : List PyData := srtT u.rows
def hd1 (k : List Str) : Str := match k with
  | x :: _ => x
  | [] => Str.empty
def Unt.need (u : Unt) : List Str := sortS (nubS ((SU u.rows).map hd1))
section
variable {n : Nat} {u : Unt} (h : u.ok)
include h
theorem need_nm : ∀ x ∈ u.need, x ∈ NMZ := fun x hx => by
  have := (sortS_perm _).mem_iff.mp hx
  obtain ⟨k, hk, rfl⟩ := List.mem_map.mp ((mem_nubS _ _).mp this)
  obtain ⟨i, hi, rfl⟩ := List.mem_map.mp (SU_mem hk)
  exact (h.2.2 i hi).2.1
theorem rows_len : u.rows.length ≤ 4 := by unfold Unt.rows; rw [List.length_map]; exact h.2.1
theorem need_len : u.need.length ≤ 4 := by
  unfold Unt.need
  rw [(sortS_perm _).length_eq]
  have h1 := nubS_len ((SU u.rows).map hd1)
  have h2 := SU_len u.rows
  have h3 := rows_len h
  rw [List.length_map] at h1
  omega
theorem lc_u3 {c : SW.Ctx} {a0 : Option O} {b2 b3 b4 b5 : Option D} : evE c lc_uses_of_3 [a0, some (.lst (u.its.map It.us)), b2.map O.val, b3.map O.val, b4.map O.val, b5.map O.val, none] = .ok (.vl (.lst (u.rows.map encT))) [a0, some (.val (.list (u.its.map It.us))), b2.map O.val, b3.map O.val, b4.map O.val, b5.map O.val, none] := by
  have hl := h.2.1
  have hw : ∀ b2 : Option D, backR [a0, some (.val (.list (u.its.map It.us))), b2.map O.val, b3.map O.val, b4.map O.val, b5.map O.val, none] [a0, some (.val (.list (u.its.map It.us))), none, b3.map O.val, b4.map O.val, b5.map O.val, none] [2, 6] = [a0, some (.val (.list (u.its.map It.us))), b2.map O.val, b3.map O.val, b4.map O.val, b5.map O.val, none] := fun b2 => by cases b2 <;> rfl
  have key : lcL (lcTurn (.tup [2, 6]) (evC c none (evE c (.tupE [(.idx (.var 6) (.lit (.int 0))), (.var 2), (.idx (.var 6) (.lit (.int 1)))])))) (u.its.map It.us) [] [a0, some (.val (.list (u.its.map It.us))), none, b3.map O.val, b4.map O.val, b5.map O.val, none] = .ok (u.rows.map encT) [a0, some (.val (.list (u.its.map It.us))), none, b3.map O.val, b4.map O.val, b5.map O.val, none] := by
    have gen : ∀ (l : List It) (acc : List PyData), acc.length + l.length ≤ 100 → lcL (lcTurn (.tup [2, 6]) (evC c none (evE c (.tupE [(.idx (.var 6) (.lit (.int 0))), (.var 2), (.idx (.var 6) (.lit (.int 1)))])))) (l.map It.us) acc [a0, some (.val (.list (u.its.map It.us))), none, b3.map O.val, b4.map O.val, b5.map O.val, none] = .ok (acc ++ l.map fun i => encT i.row) [a0, some (.val (.list (u.its.map It.us))), none, b3.map O.val, b4.map O.val, b5.map O.val, none] := by
      intro l
      induction l with
      | nil => intro acc _; simp [lcL]
      | cons i l ih =>
        intro acc ha
        have et : lcTurn (.tup [2, 6]) (evC c none (evE c (.tupE [(.idx (.var 6) (.lit (.int 0))), (.var 2), (.idx (.var 6) (.lit (.int 1)))]))) i.us [a0, some (.val (.list (u.its.map It.us))), none, b3.map O.val, b4.map O.val, b5.map O.val, none] = .ok (some (encT i.row)) [a0, some (.val (.list (u.its.map It.us))), none, b3.map O.val, b4.map O.val, b5.map O.val, none] := by
          have eu : i.us = .tuple [.str i.kd.u, pth i.p] := rfl
          rw [eu]
          simp [E_lcTurn_1, It.row, encT]
        rw [List.length_cons] at ha
        rw [List.map_cons]
        simp only [lcL, et]
        rw [if_pos (by rw [sizeLine_eq]; omega), ih _ (by rw [List.length_append, List.length_singleton]; omega)]
        simp
    have := gen u.its [] (by simp; omega)
    rw [this]
    unfold Unt.rows
    rw [List.map_map]
    rfl
  have e0 : evE c lc_uses_of_3 [a0, some (.lst (u.its.map It.us)), b2.map O.val, b3.map O.val, b4.map O.val, b5.map O.val, none] = lcAll (.tup [2, 6]) (evC c none (evE c (.tupE [(.idx (.var 6) (.lit (.int 0))), (.var 2), (.idx (.var 6) (.lit (.int 1)))]))) (u.its.map It.us) [a0, some (.val (.list (u.its.map It.us))), b2.map O.val, b3.map O.val, b4.map O.val, b5.map O.val, none] := Std.evI_val (x := .pl 1) rfl rfl rfl
  rw [e0]
  unfold lcAll
  have hf : ownFree [a0, some (.val (.list (u.its.map It.us))), b2.map O.val, b3.map O.val, b4.map O.val, b5.map O.val, none] (MT.tup [2, 6]).slots = true := by cases b2 <;> rfl
  rw [if_pos hf]
  have ew : wipeR [a0, some (.val (.list (u.its.map It.us))), b2.map O.val, b3.map O.val, b4.map O.val, b5.map O.val, none] (MT.tup [2, 6]).slots = [a0, some (.val (.list (u.its.map It.us))), none, b3.map O.val, b4.map O.val, b5.map O.val, none] := rfl
  rw [ew, key]
  show R.ok _ (backR _ _ [2, 6]) = _
  rw [hw]
theorem uses_run : (cxAt rs fuelW (n + 6)).call "uses_of" [.val u.D] = .ok (.lst u.uses) [.val u.D] := by
  rw [c_uses_of]
  refine run_post (by simp [f_uses_of]) ?_
  show Post (evSs (cxAt rs fuelW (n + 5)) 1 f_uses_of.body [some (.val u.D), none, none, none, none, none, none]) _ _ _
  refine post_step (s := .asg (.name 1) (.lstE [])) (ρ' := [some (.val u.D), some (.lst []), none, none, none, none, none]) rfl ?_
  refine post_seq (s := fo_uses_of_2) ?_
  have ef : evS (cxAt rs fuelW (n + 5)) 1 fo_uses_of_2 [some (.val u.D), some (.lst []), none, none, none, none, none] = foL (.tup [2, 3, 4, 5]) (evSs (cxAt rs fuelW (n + 5)) 1 fub) (u.its.map It.D) [some (.val u.D), some (.lst []), none, none, none, none, none] := Std.for_val (x := .vl (.val (.tuple (u.its.map It.D)))) rfl rfl rfl
  rw [ef]
  refine Post.mono (foL_inv' It.D u.its (fun l ρ => ∃ pre b2 b3 b4 b5, u.its = pre ++ l ∧ ρ = [some (.val u.D), some (.lst (pre.map It.us)), Option.map O.val b2, Option.map O.val b3, Option.map O.val b4, Option.map O.val b5, none]) (R := noR) (E := noE) ?_ _ _ (fun _ h => h) ⟨[], none, none, none, none, rfl, rfl⟩) ?_ (fun _ _ h => h.elim) fun _ h => h
  · rintro i hi l ρ ⟨pre, b2, b3, b4, b5, e, rfl⟩
    have hl := h.2.1
    obtain ⟨ρ1, c2, c3, c4, c5, e1, e2⟩ := fu_turn (n := n) (h.2.2 i hi) (a0 := some (.val u.D)) (a2 := b2.map O.val) (a3 := b3.map O.val) (a4 := b4.map O.val) (a5 := b5.map O.val) (F := pre.map It.us) (by rw [List.length_map]; rw [e] at hl; simp at hl; omega)
    refine ⟨ρ1, e1, ?_⟩
    rw [e2, post_nx]
    exact ⟨pre ++ [i], some c2, some c3, some c4, some c5, by rw [e]; simp, by rw [List.map_append]; rfl⟩
  · rintro ρ ⟨pre, b2, b3, b4, b5, e, rfl⟩
    rw [List.append_nil] at e
    subst e
    have e3 := lc_u3 h (c := cxAt rs fuelW (n + 5)) (a0 := some (.val u.D)) (b2 := b2) (b3 := b3) (b4 := b4) (b5 := b5)
    have es := srtSet_enc (l := u.rows) (fun k hk => by
      obtain ⟨i, _, rfl⟩ := List.mem_map.mp hk
      exact List.cons_ne_nil _ _)
    have hl : u.rows.length < 64 := by have := rows_len h; omega
    have er : evS (cxAt rs fuelW (n + 5)) 1 (.ret (.un .srtSet lc_uses_of_3)) [some (.val u.D), some (.lst (u.its.map It.us)), b2.map O.val, b3.map O.val, b4.map O.val, b5.map O.val, none] = .rt (.lst u.uses) [some (.val u.D), some (.val (.list (u.its.map It.us))), b2.map O.val, b3.map O.val, b4.map O.val, b5.map O.val, none] := by
      simp [e3, es, hl]
      rfl
    exact post_seq (by rw [er, post_rt]; exact ⟨rfl, rfl⟩)
end
end K44

set_option Elab.async false
set_option linter.all false
set_option maxRecDepth 100000
set_option maxHeartbeats 8000000
namespace K44
open PySem PySem.Spec L2 SW
open PyProof.Rows hiding St
section
variable {n : Nat} {u : Unt} (h : u.ok)
include h
theorem luses_run : (cxAt rs fuelW (n + 6)).call "_law_uses_of" [.val u.D] = .ok (.lst u.uses) [.val u.D] := by
  rw [c_luses_of]
  refine run_post (by simp [f__law_uses_of]) ?_
  show Post (evSs (cxAt rs fuelW (n + 5)) 1 f__law_uses_of.body [some (.val u.D), none, none, none, none, none, none]) _ _ _
  refine post_step (s := .asg (.name 1) (.lstE [])) (ρ' := [some (.val u.D), some (.lst []), none, none, none, none, none]) rfl ?_
  refine post_seq (s := fo__law_uses_of_2) ?_
  have ef : evS (cxAt rs fuelW (n + 5)) 1 fo__law_uses_of_2 [some (.val u.D), some (.lst []), none, none, none, none, none] = foL (.tup [2, 3, 4, 5]) (evSs (cxAt rs fuelW (n + 5)) 1 lub) (u.its.map It.D) [some (.val u.D), some (.lst []), none, none, none, none, none] := Std.for_val (x := .vl (.val (.tuple (u.its.map It.D)))) rfl rfl rfl
  rw [ef]
  refine Post.mono (foL_inv' It.D u.its (fun l ρ => ∃ pre b2 b3 b4 b5, u.its = pre ++ l ∧ ρ = [some (.val u.D), some (.lst (pre.map It.us)), Option.map O.val b2, Option.map O.val b3, Option.map O.val b4, Option.map O.val b5, none]) (R := noR) (E := noE) ?_ _ _ (fun _ h => h) ⟨[], none, none, none, none, rfl, rfl⟩) ?_ (fun _ _ h => h.elim) fun _ h => h
  · rintro i hi l ρ ⟨pre, b2, b3, b4, b5, e, rfl⟩
    have hl := h.2.1
    obtain ⟨ρ1, c2, c3, c4, c5, e1, e2⟩ := lu_turn (n := n) (h.2.2 i hi) (a0 := some (.val u.D)) (a2 := b2.map O.val) (a3 := b3.map O.val) (a4 := b4.map O.val) (a5 := b5.map O.val) (F := pre.map It.us) (by rw [List.length_map]; rw [e] at hl; simp at hl; omega)
    refine ⟨ρ1, e1, ?_⟩
    rw [e2, post_nx]
    exact ⟨pre ++ [i], some c2, some c3, some c4, some c5, by rw [e]; simp, by rw [List.map_append]; rfl⟩
  · rintro ρ ⟨pre, b2, b3, b4, b5, e, rfl⟩
    rw [List.append_nil] at e
    subst e
    have e3 : evE (cxAt rs fuelW (n + 5)) lc__law_uses_of_3 [some (.val u.D), some (.lst (u.its.map It.us)), b2.map O.val, b3.map O.val, b4.map O.val, b5.map O.val, none] = .ok (.vl (.lst (u.rows.map encT))) [some (.val u.D), some (.val (.list (u.its.map It.us))), b2.map O.val, b3.map O.val, b4.map O.val, b5.map O.val, none] := lc_u3 h (c := cxAt rs fuelW (n + 5)) (a0 := some (.val u.D)) (b2 := b2) (b3 := b3) (b4 := b4) (b5 := b5)
    have es := srtSet_enc (l := u.rows) (fun k hk => by
      obtain ⟨i, _, rfl⟩ := List.mem_map.mp hk
      exact List.cons_ne_nil _ _)
    have hl : u.rows.length < 64 := by have := rows_len h; omega
    have er : evS (cxAt rs fuelW (n + 5)) 1 (.ret (.un .srtSet lc__law_uses_of_3)) [some (.val u.D), some (.lst (u.its.map It.us)), b2.map O.val, b3.map O.val, b4.map O.val, b5.map O.val, none] = .rt (.lst u.uses) [some (.val u.D), some (.val (.list (u.its.map It.us))), b2.map O.val, b3.map O.val, b4.map O.val, b5.map O.val, none] := by
      simp [e3, es, hl]
      rfl
    exact post_seq (by rw [er, post_rt]; exact ⟨rfl, rfl⟩)
theorem firsts {c : SW.Ctx} : lcAll (.name 1) (evC c none (evE c (.idx (.var 1) (.lit (.int 0))))) u.uses [some (.val u.D), none] = .ok (.vl (.lst (((SU u.rows).map hd1).map .str))) [some (.val u.D), none] := by
  have hl := SU_len u.rows
  have h3 := rows_len h
  have e := lc_map (t := .name 1) (cond := evC c none (evE c (.idx (.var 1) (.lit (.int 0))))) (ρ := [some (.val u.D), none]) (l := SU u.rows) (ds := u.uses) (e := encT) (g := fun k => some (.str (hd1 k))) (srtT_SU _) rfl rfl (by rw [sizeLine_eq]; omega) fun k hk => by
    obtain ⟨i, hi, rfl⟩ := List.mem_map.mp (SU_mem hk)
    have er : encT i.row = .tuple [.str i.p.1, .str i.kd.u, .str i.p.2] := rfl
    have eh : hd1 i.row = i.p.1 := rfl
    rw [er, eh]
    simp [E_lcTurn_1]
  rw [Std.fmap_some] at e
  rw [List.map_map]
  exact e
theorem strs_need : srtSetD (((SU u.rows).map hd1).map .str) = some (.lst (u.need.map .str)) := by
  unfold srtSetD
  rw [strsOf_str]
  rfl
theorem needs_run : (cxAt rs fuelW (n + 7)).call "needs_of" [.val u.D] = .ok (.lst (u.need.map .str)) [.val u.D] := by
  rw [c_needs_of]
  have e1 := uses_run (n := n) h
  have e2 : evE (cxAt rs fuelW (n + 6)) lc_needs_of_1 [some (.val u.D), none] = .ok (.vl (.lst (((SU u.rows).map hd1).map .str))) [some (.val u.D), none] := by
    refine (Std.evI_val (x := .vl (.lst u.uses)) (ρ1 := [some (.val u.D), none]) (d := .list u.uses) (ds := u.uses) ?_ rfl rfl).trans (firsts h)
    simp [e1]
  have e3 := strs_need h
  have hl : (SU u.rows).length < 64 := by have := SU_len u.rows; have := rows_len h; omega
  simp [-List.map_map, f_needs_of, e2, e3, hl]
theorem lneeds_run : (cxAt rs fuelW (n + 7)).call "_law_needs" [.val u.D] = .ok (.lst (u.need.map .str)) [.val u.D] := by
  rw [c_lneeds]
  have e1 := luses_run (n := n) h
  have e2 : evE (cxAt rs fuelW (n + 6)) lc__law_needs_1 [some (.val u.D), none] = .ok (.vl (.lst (((SU u.rows).map hd1).map .str))) [some (.val u.D), none] := by
    refine (Std.evI_val (x := .vl (.lst u.uses)) (ρ1 := [some (.val u.D), none]) (d := .list u.uses) (ds := u.uses) ?_ rfl rfl).trans (firsts h)
    simp [e1]
  have e3 := strs_need h
  have hl : (SU u.rows).length < 64 := by have := SU_len u.rows; have := rows_len h; omega
  simp [-List.map_map, f__law_needs, e2, e3, hl]
end
end K44

set_option Elab.async false
set_option linter.all false
set_option maxRecDepth 100000
set_option maxHeartbeats 8000000
/-! needs as a graph: rings, what can stand next -/
namespace K44
open PySem PySem.Spec L2 SW
open PyProof.Rows hiding St
abbrev G := List (Str × List Str)
def keys (g : G) : List Str := g.map (·.1)
def nd (g : G) (x : Str) : List Str := ((g.find? fun p => p.1 == x).map (·.2)).getD []
def okG (g : G) : Prop := g.length ≤ 7 ∧ (keys g).Nodup ∧ (∀ x ∈ keys g, x ∈ NMZ) ∧ ∀ p ∈ g, p.2.length ≤ 4 ∧ ∀ x ∈ p.2, x ∈ NMZ
/-- all that is needed is there -/
def Full (g : G) : Prop := ∀ x ∈ keys g, ∀ y ∈ nd g x, y ∈ keys g
def lst (w : List Str) : Str := w.getLast?.getD Str.empty
def scan (x : Str) (w : List Str) : List Str → List (List Str) → List Str → List Str ⊕ (List (List Str) × List Str)
  | [], ws, seen => .inr (ws, seen)
  | o :: os, ws, seen => if o = x then .inl (w ++ [x]) else if o ∈ seen then scan x w os ws seen else scan x w os (ws ++ [w ++ [o]]) (seen ++ [o])
def bfs (g : G) (x : Str) : Nat → List (List Str) → List Str → Option (List Str)
  | 0, _, _ => none
  | _ + 1, [], _ => none
  | n + 1, w :: ws, seen => match scan x w (nd g (lst w)) ws seen with
    | .inl r => some r
    | .inr p => bfs g x n p.1 p.2
def ring (g : G) (x : Str) : Option (List Str) := bfs g x 20 [[x]] []
theorem nd_mem {g : G} {x : Str} (h : x ∈ keys g) : ∃ p ∈ g, p.1 = x ∧ nd g x = p.2 := by
  obtain ⟨p, hp, rfl⟩ := List.mem_map.mp h
  cases hf : g.find? fun q => q.1 == p.1 with
  | none =>
    have := List.find?_eq_none.mp hf p hp
    simp at this
  | some q =>
    refine ⟨q, List.mem_of_find?_eq_some hf, by simpa using List.find?_some hf, ?_⟩
    unfold nd
    rw [hf]
    rfl
theorem nd_ok {g : G} (hg : okG g) {x : Str} (h : x ∈ keys g) : (nd g x).length ≤ 4 ∧ ∀ y ∈ nd g x, y ∈ NMZ := by
  obtain ⟨p, hp, _, e⟩ := nd_mem h
  rw [e]
  exact hg.2.2.2 p hp
theorem lst_app (w : List Str) (o : Str) : lst (w ++ [o]) = o := by unfold lst; simp
theorem lst_mem {w : List Str} (h : w ≠ []) : lst w ∈ w := by
  unfold lst
  rw [List.getLast?_eq_some_getLast h]
  exact List.getLast_mem h
/-- what is true of the ways and of what was seen -/
structure Good (g : G) (x : Str) (ws : List (List Str)) (seen : List Str) : Prop where
  nd : seen.Nodup
  sub : ∀ y ∈ seen, y ∈ keys g
  no : x ∉ seen
  wn : ∀ w ∈ ws, w ≠ [] ∧ (∀ y ∈ w, y ∈ keys g) ∧ w.length ≤ seen.length + 1
  wl : ws.length ≤ seen.length + 1
/-- pending: someone's needs are seen, or its way waits -/
def Pend (g : G) (ws : List (List Str)) (seen : List Str) (y : Str) : Prop := (∃ w ∈ ws, lst w = y) ∨ ∀ z ∈ nd g y, z ∈ seen
theorem len_sub : ∀ (l k : List Str), l.Nodup → (∀ x ∈ l, x ∈ k) → l.length ≤ k.length
  | [], _, _, _ => Nat.zero_le _
  | x :: l, k, hn, hs => by
    obtain ⟨h1, h2⟩ := List.nodup_cons.mp hn
    have hx : x ∈ k := hs x List.mem_cons_self
    have ih := len_sub l (k.erase x) h2 fun y hy => by
      have hne : y ≠ x := fun e => h1 (e ▸ hy)
      exact (List.mem_erase_of_ne hne).2 (hs y (List.mem_cons_of_mem _ hy))
    have e := List.length_erase_of_mem hx
    have hp : 0 < k.length := List.length_pos_of_mem hx
    rw [List.length_cons]
    omega
theorem Good.len {g : G} (hg : okG g) {x : Str} {ws : List (List Str)} {seen : List Str} (h : Good g x ws seen) : seen.length ≤ 7 := by
  have := len_sub seen (keys g) h.nd h.sub
  unfold keys at this
  rw [List.length_map] at this
  exact Nat.le_trans this hg.1
/-- one more -/
theorem Good.more {g : G} {x : Str} {ws : List (List Str)} {seen : List Str} (h : Good g x ws seen) {w : List Str} (hw : ∀ y ∈ w, y ∈ keys g) (hl : w.length ≤ seen.length + 1) {o : Str} (ho : o ∈ keys g) (hx : o ≠ x) (hs : o ∉ seen) : Good g x (ws ++ [w ++ [o]]) (seen ++ [o]) where
  nd := List.nodup_append.mpr ⟨h.nd, by simp, fun a ha b hb e => hs (by rw [List.mem_singleton.mp hb] at e; rw [← e]; exact ha)⟩
  sub := fun y hy => by
    rcases List.mem_append.mp hy with q | q
    · exact h.sub y q
    · rw [List.mem_singleton.mp q]; exact ho
  no := fun q => by
    rcases List.mem_append.mp q with q | q
    · exact h.no q
    · exact hx (List.mem_singleton.mp q).symm
  wn := fun v hv => by
    rcases List.mem_append.mp hv with q | q
    · obtain ⟨h1, h2, h3⟩ := h.wn v q
      exact ⟨h1, h2, by rw [List.length_append, List.length_singleton]; omega⟩
    · rw [List.mem_singleton.mp q]
      refine ⟨by simp, fun y hy => ?_, by rw [List.length_append, List.length_append, List.length_singleton]; omega⟩
      rcases List.mem_append.mp hy with q | q
      · exact hw y q
      · rw [List.mem_singleton.mp q]; exact ho
  wl := by have := h.wl; rw [List.length_append, List.length_append, List.length_singleton, List.length_singleton]; omega
theorem Good.pop {g : G} {x : Str} {w : List Str} {ws : List (List Str)} {seen : List Str} (h : Good g x (w :: ws) seen) : Good g x ws seen := ⟨h.nd, h.sub, h.no, fun v hv => h.wn v (by simp [hv]), by have := h.wl; rw [List.length_cons] at this; omega⟩
/-- a scan to its end: all needed ones are seen, the others wait as before -/
theorem scan_end {g : G} {x : Str} {w : List Str} : ∀ (os : List Str) (ws : List (List Str)) (seen : List Str) (p : List (List Str) × List Str), (∀ y ∈ w, y ∈ keys g) → w.length ≤ seen.length + 1 → (∀ o ∈ os, o ∈ keys g) → Good g x ws seen → scan x w os ws seen = .inr p →
    Good g x p.1 p.2 ∧ (∀ y ∈ seen, y ∈ p.2) ∧ (∀ v ∈ ws, v ∈ p.1) ∧ (∀ o ∈ os, o ∈ p.2) ∧ p.1.length + seen.length = ws.length + p.2.length ∧ ∀ y ∈ p.2, y ∈ seen ∨ ∃ v ∈ p.1, lst v = y
  | [], ws, seen, p, hw, hl, ho, hg, e => by
    cases e
    exact ⟨hg, fun _ h => h, fun _ h => h, fun _ h => (nomatch h), rfl, fun _ h => .inl h⟩
  | o :: os, ws, seen, p, hw, hl, ho, hg, e => by
    unfold scan at e
    split at e
    · cases e
    · rename_i hox
      split at e
      · rename_i hos
        obtain ⟨a1, a2, a3, a4, a5, a6⟩ := scan_end os ws seen p hw hl (fun z hz => ho z (by simp [hz])) hg e
        exact ⟨a1, a2, a3, fun z hz => by
          rcases List.mem_cons.mp hz with rfl | q
          · exact a2 z hos
          · exact a4 z q, a5, a6⟩
      · rename_i hos
        obtain ⟨a1, a2, a3, a4, a5, a6⟩ := scan_end os (ws ++ [w ++ [o]]) (seen ++ [o]) p hw (by rw [List.length_append]; omega) (fun z hz => ho z (by simp [hz])) (hg.more hw hl (ho o (by simp)) hox hos) e
        refine ⟨a1, fun y hy => a2 y (by simp [hy]), fun v hv => a3 v (by simp [hv]), fun z hz => ?_, ?_, fun y hy => ?_⟩
        · rcases List.mem_cons.mp hz with rfl | q
          · exact a2 z (by simp)
          · exact a4 z q
        · rw [List.length_append, List.length_append, List.length_singleton, List.length_singleton] at a5
          omega
        · rcases a6 y hy with q | q
          · rcases List.mem_append.mp q with q | q
            · exact .inl q
            · exact .inr ⟨w ++ [o], a3 _ (by simp), by rw [lst_app]; exact (List.mem_singleton.mp q).symm⟩
          · exact .inr q
/-- no ring: what is seen in the end is closed and without x -/
theorem bfs_none {g : G} (hf : Full g) (hg : okG g) {x : Str} : ∀ (n : Nat) (ws : List (List Str)) (seen : List Str), Good g x ws seen → ws.length + (7 - seen.length) < n → Pend g ws seen x → (∀ y ∈ seen, Pend g ws seen y) → bfs g x n ws seen = none →
    ∃ S : List Str, x ∉ S ∧ (∀ y ∈ nd g x, y ∈ S) ∧ ∀ y ∈ S, ∀ z ∈ nd g y, z ∈ S
  | 0, _, _, _, h, _, _, _ => absurd h (Nat.not_lt_zero _)
  | n + 1, [], seen, hgd, hm, hx, hp, e => by
    refine ⟨seen, hgd.no, ?_, fun y hy => ?_⟩
    · rcases hx with ⟨w, hw, _⟩ | h
      · cases hw
      · exact h
    · rcases hp y hy with ⟨w, hw, _⟩ | h
      · cases hw
      · exact h
  | n + 1, w :: ws, seen, hgd, hm, hx, hp, e => by
    obtain ⟨w1, w2, w3⟩ := hgd.wn w (by simp)
    have hk : lst w ∈ keys g := w2 _ (lst_mem w1)
    have e : (match scan x w (nd g (lst w)) ws seen with
      | .inl r => some r
      | .inr p => bfs g x n p.1 p.2) = none := e
    cases hs : scan x w (nd g (lst w)) ws seen with
    | inl r => rw [hs] at e; cases e
    | inr p =>
      rw [hs] at e
      obtain ⟨a1, a2, a3, a4, a5, a6⟩ := scan_end _ _ _ _ w2 w3 (hf _ hk) hgd.pop hs
      have carry : ∀ y, Pend g (w :: ws) seen y → Pend g p.1 p.2 y := fun y q => by
        rcases q with ⟨v, hv, hl⟩ | q
        · rcases List.mem_cons.mp hv with rfl | hv
          · rw [← hl]; exact .inr a4
          · exact .inl ⟨v, a3 v hv, hl⟩
        · exact .inr fun z hz => a2 z (q z hz)
      have l7 := a1.len hg
      have l8 := hgd.len hg
      rw [List.length_cons] at hm
      refine bfs_none hf hg n p.1 p.2 a1 (by omega) (carry x hx) (fun y hy => ?_) e
      rcases a6 y hy with q | q
      · exact carry y (hp y q)
      · exact .inl q
theorem ring_none {g : G} (hf : Full g) (hg : okG g) {x : Str} (hx : x ∈ keys g) (h : ring g x = none) : ∃ S : List Str, x ∉ S ∧ (∀ y ∈ nd g x, y ∈ S) ∧ ∀ y ∈ S, ∀ z ∈ nd g y, z ∈ S :=
  bfs_none hf hg 20 [[x]] [] ⟨.nil, fun _ h => (nomatch h), fun h => (nomatch h), fun w hw => by rw [List.mem_singleton.mp hw]; exact ⟨by simp, fun y hy => by rw [List.mem_singleton.mp hy]; exact hx, by simp⟩, by simp⟩ (by simp) (.inl ⟨[x], by simp, rfl⟩) (fun _ h => (nomatch h)) h
/-! what can stand next -/
def ready (g : G) (found : List Str) (x : Str) : Bool := decide (x ∉ found) && (nd g x).all fun y => decide (y ∈ found)
/-- someone can stand -/
theorem next_ex {g : G} (hf : Full g) (hg : okG g) (hr : ∀ x ∈ keys g, ring g x = none) {found : List Str} (hn : ∃ x ∈ keys g, x ∉ found) : ∃ x ∈ keys g, ready g found x = true := by
  rcases Classical.em (∃ x ∈ keys g, ready g found x = true) with c | c
  · exact c
  · exfalso
    have step : ∀ x : { x : Str // x ∈ keys g ∧ x ∉ found }, ∃ y : { y : Str // y ∈ keys g ∧ y ∉ found }, y.1 ∈ nd g x.1 := fun ⟨x, hx, hxf⟩ => by
      rcases Classical.em (∃ y ∈ nd g x, y ∉ found) with ⟨y, hy, hyf⟩ | d
      · exact ⟨⟨y, hf x hx y hy, hyf⟩, hy⟩
      · refine absurd ⟨x, hx, ?_⟩ c
        unfold ready
        rw [decide_eq_true hxf, Bool.true_and, List.all_eq_true]
        intro y hy
        rcases Classical.em (y ∈ found) with q | q
        · exact decide_eq_true q
        · exact absurd ⟨y, hy, q⟩ d
    obtain ⟨f, hfs⟩ : ∃ f : { x : Str // x ∈ keys g ∧ x ∉ found } → { x : Str // x ∈ keys g ∧ x ∉ found }, ∀ x, (f x).1 ∈ nd g x.1 := ⟨fun x => (step x).choose, fun x => (step x).choose_spec⟩
    obtain ⟨x0, h0, h0f⟩ := hn
    let c : Nat → { x : Str // x ∈ keys g ∧ x ∉ found } := fun n => Nat.rec ⟨x0, h0, h0f⟩ (fun _ y => f y) n
    have cs : ∀ n, (c (n + 1)).1 ∈ nd g (c n).1 := fun n => hfs (c n)
    have far : ∀ i k, (c (i + (k + 1))).1 ≠ (c i).1 := fun i k e => by
      obtain ⟨S, s1, s2, s3⟩ := ring_none hf hg (c i).2.1 (hr _ (c i).2.1)
      have inS : ∀ k, (c (i + (k + 1))).1 ∈ S := fun k => by
        induction k with
        | zero => exact s2 _ (cs i)
        | succ k ih => exact s3 _ ih _ (cs (i + (k + 1)))
      exact s1 (by rw [← e]; exact inS k)
    have hnd : ((List.range 8).map fun i => (c i).1).Nodup := by
      rw [List.nodup_iff_pairwise_ne, List.pairwise_map]
      refine List.pairwise_lt_range.imp fun {a b} hab e => ?_
      exact far a (b - a - 1) (by rw [show a + (b - a - 1 + 1) = b by omega]; exact e.symm)
    have := len_sub _ (keys g) hnd fun x hx => by
      obtain ⟨i, _, rfl⟩ := List.mem_map.mp hx
      exact (c i).2.1
    unfold keys at this
    rw [List.length_map, List.length_range, List.length_map] at this
    have := hg.1
    omega
end K44

set_option Elab.async false
set_option linter.all false
set_option maxRecDepth 100000
set_option maxHeartbeats 8000000
/-! ring_of -/
namespace K44
open PySem PySem.Spec L2 SW
open PyProof.Rows hiding St
def nmsD (l : List Str) : List PyData := l.map .str
def wsD (l : List (List Str)) : List PyData := l.map fun w => .list (nmsD w)
def kvG (g : G) : KV := g.map fun p => (p.1, .list (nmsD p.2))
theorem sh_nms {l : List Str} (h : ∀ x ∈ l, x ∈ NMZ) : SeqAt.shaped (.list (nmsD l)) = true := Std.shaped_list (k := 0) (fun d hd => by
  obtain ⟨x, hx, rfl⟩ := List.mem_map.mp hd
  exact okS_NMZ x (h x hx)) (by omega)
theorem strOk_NMZ {x : Str} (h : x ∈ NMZ) : PyData.strOk x = true := ok_of (okS_NMZ x h)
theorem any_nms (l : List Str) (x : Str) : ((nmsD l).any fun z => PyData.eqv z (.str x)) = decide (x ∈ l) := by
  unfold nmsD
  rw [List.any_map, Bool.eq_iff_iff]
  simp only [List.any_eq_true, Function.comp, eqv_s, eqS_str, decide_eq_true_eq, beq_iff_eq]
  constructor
  · rintro ⟨q, hq, rfl⟩; exact hq
  · intro h; exact ⟨x, h, rfl⟩
theorem in_nms {l : List Str} {x : Str} (h : ∀ x ∈ l, x ∈ NMZ) (hx : x ∈ NMZ) : inD (.str x) (.list (nmsD l)) = some (decide (x ∈ l)) := by
  have h1 := sh_nms h
  have h2 := strOk_NMZ hx
  simp only [inD]
  rw [if_pos (by simp only [eqOk_eq, h1, shaped_str, h2, Bool.and_self]), any_nms]
theorem len_nms (l : List Str) : (nmsD l).length = l.length := by unfold nmsD; rw [List.length_map]
theorem len_ws (l : List (List Str)) : (wsD l).length = l.length := by unfold wsD; rw [List.length_map]
theorem keys_kvG (g : G) : (kvG g).map (·.1) = keys g := by unfold kvG keys; rw [List.map_map]; rfl
theorem len_kvG (g : G) : (kvG g).length = g.length := by unfold kvG; rw [List.length_map]
theorem get_kvG : ∀ {g : G} {x : Str}, x ∈ keys g → getS (kvG g) x = some (.list (nmsD (nd g x)))
  | [], x, h => by cases h
  | p :: g, x, h => by
    unfold kvG nd
    rw [List.map_cons, getS_cons, List.find?_cons]
    by_cases e : p.1 = x
    · rw [if_pos e, show (p.1 == x) = true from by simpa using e]; rfl
    · rw [if_neg e, show (p.1 == x) = false from by simpa using e]
      have hx : x ∈ keys g := by
        rcases List.mem_cons.mp h with q | q
        · exact absurd q.symm e
        · exact q
      exact get_kvG hx
theorem idx_kvG {g : G} {x : Str} (h : x ∈ keys g) : idxD (.dict (kvD (kvG g))) (.str x) = some (.list (nmsD (nd g x))) := by rw [idxD_kv, get_kvG h]
theorem in_kvG {g : G} {x : Str} : inD (.str x) (.dict (kvD (kvG g))) = some (decide (x ∈ keys g)) := by
  rw [inD_kv]
  congr 1
  unfold kvG keys
  rw [List.any_map, Bool.eq_iff_iff, decide_eq_true_eq, List.any_eq_true, List.mem_map]
  constructor
  · rintro ⟨p, hp, e⟩; exact ⟨p, hp, by simpa using e⟩
  · rintro ⟨p, hp, e⟩; exact ⟨p, hp, by simpa using e⟩
theorem last_nms {w : List Str} (h : w ≠ []) : atI (nmsD w) (-1) = some (.str (lst w)) := by
  have hl : 0 < w.length := List.length_pos_iff.mpr h
  unfold atI ixN
  rw [len_nms, if_neg (by omega), if_pos (by omega)]
  show (nmsD w)[((-1 : Int) + (w.length : Int)).toNat]? = _
  rw [show ((-1 : Int) + (w.length : Int)).toNat = w.length - 1 by omega]
  unfold nmsD lst
  rw [List.getElem?_map, List.getLast?_eq_getElem?, List.getElem?_eq_getElem (by omega)]
  rfl
theorem app_nms (l : List Str) (x : Str) : nmsD l ++ [.str x] = nmsD (l ++ [x]) := by unfold nmsD; rw [List.map_append]; rfl
theorem app_ws (l : List (List Str)) (w : List Str) : wsD l ++ [.list (nmsD w)] = wsD (l ++ [w]) := by unfold wsD; rw [List.map_append]; rfl
theorem scan_cons (x : Str) (w : List Str) (o : Str) (os : List Str) (ws : List (List Str)) (seen : List Str) : scan x w (o :: os) ws seen = if o = x then .inl (w ++ [x]) else if o ∈ seen then scan x w os ws seen else scan x w os (ws ++ [w ++ [o]]) (seen ++ [o]) := rfl
def rob : List MS := match fo_ring_of_1 with
  | .forS _ _ _ b => b
  | _ => []
def rwb : List MS := match wh_ring_of_2 with
  | .whl _ b => b
  | _ => []
def rwt : ME := match wh_ring_of_2 with
  | .whl t _ => t
  | _ => .bad
section
variable {c : SW.Ctx} {g : G} (hf : Full g) (hg : okG g) {x : Str} (hx : x ∈ keys g)
include hf hg hx
theorem ro_loop {o0 : O} (h0 : o0.data = .dict (kvD (kvG g))) (h0' : ∀ ds, o0 ≠ .lst ds) {w : List Str} {ws : List (List Str)} {seen : List Str} {b5 : Option O} (hgd : Good g x (w :: ws) seen) :
    Post (evS c 2 fo_ring_of_1 [some o0, some (.val (.str x)), some (.lst (wsD ws)), some (.lst (nmsD seen)), some (.val (.list (nmsD w))), b5])
      (fun ρ => ∃ p b5, scan x w (nd g (lst w)) ws seen = .inr p ∧ ρ = [some o0, some (.val (.str x)), some (.lst (wsD p.1)), some (.lst (nmsD p.2)), some (.val (.list (nmsD w))), b5])
      (fun o ρ => ∃ r, scan x w (nd g (lst w)) ws seen = .inl r ∧ o = .lst (nmsD r) ∧ endArgs [false, false] [o0, .val (.str x)] ρ = some [o0, .val (.str x)]) noE := by
  obtain ⟨w1, w2, w3⟩ := hgd.wn w (by simp)
  have hk : lst w ∈ keys g := w2 _ (lst_mem w1)
  have e1 := last_nms w1
  have e2 := idx_kvG hk
  have hnm := fun y (hy : y ∈ keys g) => hg.2.2.1 y hy
  have el : evE c (.idx (.var 0) (.idx (.var 4) (.neg (.lit (.int 1))))) [some o0, some (.val (.str x)), some (.lst (wsD ws)), some (.lst (nmsD seen)), some (.val (.list (nmsD w))), b5] = .ok (.vl (.val (.list (nmsD (nd g (lst w)))))) [some o0, some (.val (.str x)), some (.lst (wsD ws)), some (.lst (nmsD seen)), some (.val (.list (nmsD w))), b5] := by
    simp [-E_idxD_4, e1, h0, e2]
  refine post_for (x := .vl (.val (.list (nmsD (nd g (lst w)))))) (d := .list (nmsD (nd g (lst w)))) (ds := nmsD (nd g (lst w))) el rfl rfl ?_
  refine Post.mono (foL_inv' PyData.str (nd g (lst w)) (fun l ρ => ∃ ws' seen' b5, ρ = [some o0, some (.val (.str x)), some (.lst (wsD ws')), some (.lst (nmsD seen')), some (.val (.list (nmsD w))), b5] ∧ scan x w (nd g (lst w)) ws seen = scan x w l ws' seen' ∧ Good g x ws' seen' ∧ w.length ≤ seen'.length + 1)
    (R := fun o ρ => ∃ r, scan x w (nd g (lst w)) ws seen = .inl r ∧ o = .lst (nmsD r) ∧ endArgs [false, false] [o0, .val (.str x)] ρ = some [o0, .val (.str x)]) (E := noE) ?_ _ _ (fun _ h => h) ⟨ws, seen, b5, rfl, rfl, hgd.pop, w3⟩) ?_ (fun _ _ h => h) fun _ h => h
  · rintro o ho l ρ ⟨ws', seen', b5, rfl, es, hgd', hl'⟩
    have ok := hf _ hk o ho
    have sx := strOk_NMZ (hnm x hx)
    have so := strOk_NMZ (hnm o ok)
    have hin := in_nms (l := seen') (fun y hy => hnm y (hgd'.sub y hy)) (hnm o ok)
    have l7 := hgd'.len hg
    have c1 := cat10 (a := w.length) (b := 1) (by omega) (by omega)
    have lw := hgd'.wl
    have z1 : seen'.length < sizeLine := by rw [sizeLine_eq]; omega
    have z2 : ws'.length < sizeLine := by rw [sizeLine_eq]; omega
    refine ⟨[some o0, some (.val (.str x)), some (.lst (wsD ws')), some (.lst (nmsD seen')), some (.val (.list (nmsD w))), some (.val (.str o))], rfl, ?_⟩
    rw [scan_cons] at es
    by_cases h1 : o = x
    · subst h1
      rw [if_pos rfl] at es
      have e3 := app_nms w o
      simp [rob, fo_ring_of_1, so, len_nms, c1, e3]
      exact ⟨_, es, rfl⟩
    · rw [if_neg h1] at es
      have h1' : (o == x) = false := by simpa using h1
      by_cases h2 : o ∈ seen'
      · rw [if_pos h2] at es
        rw [decide_eq_true h2] at hin
        have key : Post (evSs c 2 rob [some o0, some (.val (.str x)), some (.lst (wsD ws')), some (.lst (nmsD seen')), some (.val (.list (nmsD w))), some (.val (.str o))]) (fun ρ => ρ = [some o0, some (.val (.str x)), some (.lst (wsD ws')), some (.lst (nmsD seen')), some (.val (.list (nmsD w))), some (.val (.str o))]) noR noE := by
          simp [-E_inD_1, rob, fo_ring_of_1, so, sx, h1', hin]
        exact key.mono (fun ρ h => ⟨ws', seen', _, h, es, hgd', hl'⟩) (fun _ _ h => h.elim) fun _ h => h
      · rw [if_neg h2] at es
        rw [decide_eq_false h2] at hin
        have key : Post (evSs c 2 rob [some o0, some (.val (.str x)), some (.lst (wsD ws')), some (.lst (nmsD seen')), some (.val (.list (nmsD w))), some (.val (.str o))]) (fun ρ => ρ = [some o0, some (.val (.str x)), some (.lst (wsD ws' ++ [.list (nmsD w ++ [.str o])])), some (.lst (nmsD seen' ++ [.str o])), some (.val (.list (nmsD w))), some (.val (.str o))]) noR noE := by
          simp [-E_inD_1, rob, fo_ring_of_1, so, sx, h1', hin, mutD, len_nms, len_ws, z1, z2, c1]
        refine key.mono (fun ρ h => ⟨ws' ++ [w ++ [o]], seen' ++ [o], some (.val (.str o)), ?_, es, hgd'.more w2 hl' ok h1 h2, by rw [List.length_append]; omega⟩) (fun _ _ h => h.elim) fun _ h => h
        rw [h, app_nms, app_nms, app_ws]
  · rintro ρ ⟨ws', seen', b5, rfl, es, hgd', hl'⟩
    exact ⟨(ws', seen'), b5, es, rfl⟩
theorem ring_run {n : Nat} {o0 : O} (h0 : o0.data = .dict (kvD (kvG g))) (h0' : ∀ ds, o0 ≠ .lst ds) : (cxAt rs fuelW (n + 1)).call "ring_of" [o0, .val (.str x)] = .ok (match ring g x with
    | some r => .lst (nmsD r)
    | none => .val .none) [o0, .val (.str x)] := by
  rw [c_ring_of]
  refine run_post (by simp [f_ring_of]) ?_
  show Post (evSs (cxAt rs fuelW n) 2 f_ring_of.body [some o0, some (.val (.str x)), none, none, none, none]) _ _ _
  have s1 : evS (cxAt rs fuelW n) 2 (.asg (.name 2) (.lstE [(.lstE [(.var 1)])])) [some o0, some (.val (.str x)), none, none, none, none] = .nx [some o0, some (.val (.str x)), some (.lst (wsD [[x]])), none, none, none] := rfl
  refine post_step s1 (post_step (s := .asg (.name 3) (.lstE [])) (ρ' := [some o0, some (.val (.str x)), some (.lst (wsD [[x]])), some (.lst (nmsD [])), none, none]) rfl ?_)
  refine post_seq (s := wh_ring_of_2) (post_whl ?_)
  refine Post.mono (whL_inv (α := Nat × List (List Str) × List Str) (fun a => a.1) (fun a ρ => ∃ b4 b5, ρ = [some o0, some (.val (.str x)), some (.lst (wsD a.2.1)), some (.lst (nmsD a.2.2)), b4, b5] ∧ ring g x = bfs g x a.1 a.2.1 a.2.2 ∧ Good g x a.2.1 a.2.2 ∧ a.2.1.length + (7 - a.2.2.length) < a.1)
    (N := fun ρ => ∃ b2 b3 b4 b5, ring g x = none ∧ ρ = [some o0, some (.val (.str x)), b2, b3, b4, b5]) (R := fun o ρ => ∃ r, ring g x = some r ∧ o = .lst (nmsD r) ∧ endArgs [false, false] [o0, .val (.str x)] ρ = some [o0, .val (.str x)]) (E := noE) ?_ 100000 (20, [[x]], []) _ ⟨none, none, rfl, rfl, ?_, by simp⟩ (by show 20 < 100000; omega)) ?_ ?_ fun _ h => h
  · rintro ⟨m, ws, seen⟩ ρ ⟨b4, b5, rfl, er, hgd, hm⟩
    dsimp only at er hgd hm ⊢
    cases ws with
    | nil =>
      right
      refine ⟨_, rfl, _, _, _, _, ?_, rfl⟩
      rw [er]
      cases m <;> rfl
    | cons w ws =>
      left
      have hp : (0 : Int) < ((w :: ws).length : Int) := by rw [List.length_cons]; omega
      have ht : evE (cxAt rs fuelW n) rwt [some o0, some (.val (.str x)), some (.lst (wsD (w :: ws))), some (.lst (nmsD seen)), b4, b5] = .ok (.vl (.val (.bool true))) [some o0, some (.val (.str x)), some (.lst (wsD (w :: ws))), some (.lst (nmsD seen)), b4, b5] := by
        simp [rwt, wh_ring_of_2, len_ws]
      refine ⟨_, ht, ?_⟩
      have t1 : evS (cxAt rs fuelW n) 2 (.asg (.name 4) (.idx (.var 2) (.lit (.int 0)))) [some o0, some (.val (.str x)), some (.lst (wsD (w :: ws))), some (.lst (nmsD seen)), b4, b5] = .nx [some o0, some (.val (.str x)), some (.lst (wsD (w :: ws))), some (.lst (nmsD seen)), some (.val (.list (nmsD w))), b5] := by
        simp [wsD]
      have t2 : evS (cxAt rs fuelW n) 2 (.asg (.name 2) (.slc (.var 2) (some (.lit (.int 1))) none)) [some o0, some (.val (.str x)), some (.lst (wsD (w :: ws))), some (.lst (nmsD seen)), some (.val (.list (nmsD w))), b5] = .nx [some o0, some (.val (.str x)), some (.lst (wsD ws)), some (.lst (nmsD seen)), some (.val (.list (nmsD w))), b5] := by
        have := cutL_drop (wsD (w :: ws)) 1 (by rw [len_ws]; simp)
        have : cutL (wsD (w :: ws)) (some 1) none = wsD ws := this
        simp [this]
      refine post_step t1 (post_step t2 (post_seq ((ro_loop (c := cxAt rs fuelW n) hf hg hx h0 h0' hgd (b5 := b5)).mono ?_ ?_ fun _ h => h)))
      · rintro ρ ⟨p, b5, es, rfl⟩
        refine post_nil ?_
        obtain ⟨w1, w2, w3⟩ := hgd.wn w (by simp)
        obtain ⟨a1, a2, a3, a4, a5, a6⟩ := scan_end _ _ _ _ w2 w3 (hf _ (w2 _ (lst_mem w1))) hgd.pop es
        have l7 := a1.len hg
        have l8 := hgd.len hg
        rw [List.length_cons] at hm
        cases m with
        | zero => omega
        | succ m =>
          refine ⟨(m, p.1, p.2), Nat.lt_succ_self _, _, _, rfl, ?_, a1, by dsimp only; omega⟩
          rw [er]
          show (match scan x w (nd g (lst w)) ws seen with
            | .inl r => some r
            | .inr p => bfs g x m p.1 p.2) = _
          rw [es]
      · rintro o ρ ⟨r, es, rfl, ea⟩
        refine ⟨r, ?_, rfl, ea⟩
        rw [er]
        cases m with
        | zero => omega
        | succ m =>
          show (match scan x w (nd g (lst w)) ws seen with
            | .inl r => some r
            | .inr p => bfs g x m p.1 p.2) = _
          rw [es]
  · exact ⟨.nil, fun _ h => (nomatch h), fun h => (nomatch h), fun w hw => by rw [List.mem_singleton.mp hw]; exact ⟨by simp, fun y hy => by rw [List.mem_singleton.mp hy]; exact hx, by simp⟩, by simp⟩
  · rintro ρ ⟨b2, b3, b4, b5, er, rfl⟩
    rw [er]
    exact post_seq (s := .ret (.lit .none)) (by show Post (.rt (.val .none) _) _ _ _; rw [post_rt]; exact ⟨rfl, rfl⟩)
  · rintro o ρ ⟨r, er, rfl, ea⟩
    rw [er]
    exact ⟨rfl, ea⟩
end
end K44

set_option Elab.async false
set_option linter.all false
set_option maxRecDepth 100000
set_option maxHeartbeats 8000000
/-! ordered: the names that lack, the rings -/
namespace K44
open PySem PySem.Spec L2 SW
open PyProof.Rows hiding St
def usD (us : List Unt) : List PyData := us.map Unt.D
def okUs (us : List Unt) : Prop := us.length ≤ 7 ∧ (us.map Unt.nm).Nodup ∧ ∀ u ∈ us, u.ok
def gOf (us : List Unt) : G := us.map fun u => (u.nm, u.need)
theorem keys_gOf (us : List Unt) : keys (gOf us) = us.map Unt.nm := by unfold keys gOf; rw [List.map_map]; rfl
theorem okG_gOf {us : List Unt} (h : okUs us) : okG (gOf us) := by
  refine ⟨by unfold gOf; rw [List.length_map]; exact h.1, by rw [keys_gOf]; exact h.2.1, fun x hx => ?_, fun p hp => ?_⟩
  · rw [keys_gOf] at hx
    obtain ⟨u, hu, rfl⟩ := List.mem_map.mp hx
    exact (h.2.2 u hu).1
  · obtain ⟨u, hu, rfl⟩ := List.mem_map.mp hp
    exact ⟨need_len (h.2.2 u hu), need_nm (h.2.2 u hu)⟩
def KK (g : G) : List Str := sortS (keys g)
theorem mem_KK {g : G} {x : Str} : x ∈ KK g ↔ x ∈ keys g := (sortS_perm _).mem_iff
theorem len_KK {g : G} : (KK g).length = g.length := by unfold KK keys; rw [(sortS_perm _).length_eq, List.length_map]
def missing (g : G) : Option Str := (KK g).findSome? fun x => (nd g x).find? fun y => !decide (y ∈ keys g)
def rings (g : G) : Option (List Str) := (KK g).findSome? (ring g)
theorem full_of {g : G} (h : missing g = none) : Full g := fun x hx y hy => by
  have := List.findSome?_eq_none_iff.mp h x (mem_KK.mpr hx)
  have := List.find?_eq_none.mp this y hy
  simpa using this
theorem rings_of {g : G} (h : rings g = none) : ∀ x ∈ keys g, ring g x = none := fun x hx => List.findSome?_eq_none_iff.mp h x (mem_KK.mpr hx)
theorem srt_nms {l : List Str} (h : l.length < 64) : srtD (nmsD l) = some (.lst (nmsD (sortS l))) := by
  unfold srtD srt0
  have e : strsOf (nmsD l) = some l := strsOf_str l
  rw [if_pos (by rw [len_nms]; exact h), e]
  rfl
theorem keys_D (g : G) : ((kvD (kvG g)).map fun p => p.1) = nmsD (keys g) := by
  unfold kvD kvG nmsD keys
  rw [List.map_map, List.map_map, List.map_map]
  rfl
/-- sorted(list(names)) -/
theorem srt_keys {c : SW.Ctx} {g : G} (hg : okG g) {ρ : Rho} (h : slot ρ 2 = some (.dct (kvD (kvG g)))) : evE c (.blt .sorted (.blt .list (.var 2))) ρ = .ok (.vl (.lst (nmsD (KK g)))) ρ := by
  have k1 := keys_kvD (kvG g)
  have k2 := keys_D g
  have k3 := srt_nms (l := keys g) (by unfold keys; rw [List.length_map]; have := hg.1; omega)
  simp [-List.map_map, h, k1, k2, k3]
  rfl
theorem bldS_nd {α : Type} (f : α → Str) (v : α → PyData) : ∀ (l : List α) (m : KV), ((m.map (·.1)) ++ l.map f).Nodup → bldS f v m l = m ++ l.map fun x => (f x, v x)
  | [], m, _ => by rw [List.map_nil, List.append_nil]; rfl
  | x :: l, m, h => by
    have h1 : f x ∉ m.map (·.1) := fun q => (List.nodup_append.mp h).2.2 _ q _ (by simp) rfl
    show bldS f v (putS m (f x) (v x)) l = _
    rw [putS_new _ _ _ h1, bldS_nd f v l _ (by rw [List.map_append]; simpa using h)]
    simp
abbrev st (us : List Unt) (g : G) (b3 : Option PyData) (b4 b5 b6 b7 b9 : Option O) : Rho := [some (.val (.list (usD us))), none, some (.dct (kvD (kvG g))), b3.map O.val, b4, b5, b6, b7, none, b9]
def o2b : List MS := match fo_ordered_2 with
  | .forS _ _ _ b => b
  | _ => []
def o4b : List MS := match fo_ordered_4 with
  | .forS _ _ _ b => b
  | _ => []
section
variable {c : SW.Ctx} {us : List Unt} {g : G} (hg : okG g)
include hg
theorem o2_loop {x : Str} (hx : x ∈ keys g) {b4 b5 b6 b7 b9 : Option O} : Post (evS c 1 fo_ordered_2 (st us g (some (.str x)) b4 b5 b6 b7 b9)) (fun ρ => ((nd g x).find? fun y => !decide (y ∈ keys g)) = none ∧ ∃ b4, ρ = st us g (some (.str x)) b4 b5 b6 b7 b9) noR (fun e => ∃ y, ((nd g x).find? fun y => !decide (y ∈ keys g)) = some y ∧ e = ⟨"NameWrong", .tuple [.str y]⟩) := by
  have e1 := idx_kvG hx
  have el : evE c (.idx (.var 2) (.var 3)) (st us g (some (.str x)) b4 b5 b6 b7 b9) = .ok (.vl (.val (.list (nmsD (nd g x))))) (st us g (some (.str x)) b4 b5 b6 b7 b9) := by
    simp [-E_idxD_4, e1]
  refine post_for (x := .vl (.val (.list (nmsD (nd g x))))) (d := .list (nmsD (nd g x))) (ds := nmsD (nd g x)) el rfl rfl ?_
  refine Post.mono (foL_inv' PyData.str (nd g x) (fun l ρ => ((nd g x).find? fun y => !decide (y ∈ keys g)) = (l.find? fun y => !decide (y ∈ keys g)) ∧ ∃ b4, ρ = st us g (some (.str x)) b4 b5 b6 b7 b9) (R := noR) (E := fun e => ∃ y, ((nd g x).find? fun y => !decide (y ∈ keys g)) = some y ∧ e = ⟨"NameWrong", .tuple [.str y]⟩) ?_ _ _ (fun _ h => h) ⟨rfl, b4, rfl⟩) (fun ρ h => h) (fun _ _ h => h) fun _ h => h
  rintro y hy l ρ ⟨es, b4, rfl⟩
  have hin := in_kvG (g := g) (x := y)
  refine ⟨st us g (some (.str x)) (some (.val (.str y))) b5 b6 b7 b9, rfl, ?_⟩
  rw [Std.find_cons] at es
  by_cases h : y ∈ keys g
  · rw [decide_eq_true h] at hin es
    have key : Post (evSs c 1 o2b (st us g (some (.str x)) (some (.val (.str y))) b5 b6 b7 b9)) (fun ρ => ρ = st us g (some (.str x)) (some (.val (.str y))) b5 b6 b7 b9) noR noE := by
      simp [-E_inD_3, o2b, fo_ordered_2, hin]
    exact key.mono (fun ρ h => ⟨es, _, h⟩) (fun _ _ h => h) fun _ h => h.elim
  · rw [decide_eq_false h] at hin es
    have key : Post (evSs c 1 o2b (st us g (some (.str x)) (some (.val (.str y))) b5 b6 b7 b9)) (fun ρ => False) noR (fun e => e = ⟨"NameWrong", .tuple [.str y]⟩) := by
      simp [-E_inD_3, o2b, fo_ordered_2, hin]
    exact key.mono (fun ρ h => h.elim) (fun _ _ h => h) fun _ h => ⟨y, es, h⟩
theorem o3_loop {b3 : Option PyData} {b4 b5 b6 b7 b9 : Option O} : Post (evS c 1 fo_ordered_3 (st us g b3 b4 b5 b6 b7 b9)) (fun ρ => missing g = none ∧ ∃ b3 b4, ρ = st us g b3 b4 b5 b6 b7 b9) noR (fun e => ∃ y, missing g = some y ∧ e = ⟨"NameWrong", .tuple [.str y]⟩) := by
  refine post_for (x := .vl (.lst (nmsD (KK g)))) (d := .list (nmsD (KK g))) (ds := nmsD (KK g)) (srt_keys hg rfl) rfl rfl ?_
  refine Post.mono (foL_inv' PyData.str (KK g) (fun l ρ => missing g = (l.findSome? fun x => (nd g x).find? fun y => !decide (y ∈ keys g)) ∧ ∃ b3 b4, ρ = st us g b3 b4 b5 b6 b7 b9) (R := noR) (E := fun e => ∃ y, missing g = some y ∧ e = ⟨"NameWrong", .tuple [.str y]⟩) ?_ _ _ (fun _ h => h) ⟨rfl, b3, b4, rfl⟩) (fun ρ h => h) (fun _ _ h => h) fun _ h => h
  rintro x hx l ρ ⟨es, b3, b4, rfl⟩
  refine ⟨st us g (some (.str x)) b4 b5 b6 b7 b9, rfl, post_seq ((o2_loop (c := c) (us := us) hg (mem_KK.mp hx) (b4 := b4) (b5 := b5) (b6 := b6) (b7 := b7) (b9 := b9)).mono ?_ (fun _ _ h => h) ?_)⟩
  · rintro ρ ⟨e1, b4, rfl⟩
    rw [List.findSome?_cons, e1] at es
    exact post_nil ⟨es, _, _, rfl⟩
  · rintro e ⟨y, e1, rfl⟩
    rw [List.findSome?_cons, e1] at es
    exact ⟨y, es, rfl⟩
theorem o4_loop {n : Nat} (hf : Full g) {b3 : Option PyData} {b4 b5 b6 b7 b9 : Option O} : Post (evS (cxAt rs fuelW (n + 1)) 1 fo_ordered_4 (st us g b3 b4 b5 b6 b7 b9)) (fun ρ => rings g = none ∧ ∃ b3 b5, ρ = st us g b3 b4 b5 b6 b7 b9) noR (fun e => ∃ r, rings g = some r ∧ e = ⟨"Wrong", .list (nmsD r)⟩) := by
  refine post_for (x := .vl (.lst (nmsD (KK g)))) (d := .list (nmsD (KK g))) (ds := nmsD (KK g)) (srt_keys hg rfl) rfl rfl ?_
  refine Post.mono (foL_inv' PyData.str (KK g) (fun l ρ => rings g = l.findSome? (ring g) ∧ ∃ b3 b5, ρ = st us g b3 b4 b5 b6 b7 b9) (R := noR) (E := fun e => ∃ r, rings g = some r ∧ e = ⟨"Wrong", .list (nmsD r)⟩) ?_ _ _ (fun _ h => h) ⟨rfl, b3, b5, rfl⟩) (fun ρ h => h) (fun _ _ h => h) fun _ h => h
  rintro x hx l ρ ⟨es, b3, b5, rfl⟩
  have er := ring_run hf hg (mem_KK.mp hx) (n := n) (o0 := .dct (kvD (kvG g))) rfl (fun _ => O.noConfusion)
  refine ⟨st us g (some (.str x)) b4 b5 b6 b7 b9, rfl, ?_⟩
  rw [List.findSome?_cons] at es
  cases hr : ring g x with
  | none =>
    rw [hr] at es er
    have er : (cxAt rs fuelW (n + 1)).call "ring_of" [.dct (kvD (kvG g)), .val (.str x)] = .ok (.val .none) [.dct (kvD (kvG g)), .val (.str x)] := er
    have key : Post (evSs (cxAt rs fuelW (n + 1)) 1 o4b (st us g (some (.str x)) b4 b5 b6 b7 b9)) (fun ρ => ρ = st us g (some (.str x)) b4 (some (.val .none)) b6 b7 b9) noR noE := by
      simp [o4b, fo_ordered_4, er]
    exact key.mono (fun ρ h => ⟨es, _, _, h⟩) (fun _ _ h => h) fun _ h => h.elim
  | some r =>
    rw [hr] at es er
    have er : (cxAt rs fuelW (n + 1)).call "ring_of" [.dct (kvD (kvG g)), .val (.str x)] = .ok (.lst (nmsD r)) [.dct (kvD (kvG g)), .val (.str x)] := er
    have key : Post (evSs (cxAt rs fuelW (n + 1)) 1 o4b (st us g (some (.str x)) b4 b5 b6 b7 b9)) (fun ρ => False) noR (fun e => e = ⟨"Wrong", .list (nmsD r)⟩) := by
      simp [o4b, fo_ordered_4, er]
    exact key.mono (fun ρ h => h.elim) (fun _ _ h => h) fun _ h => ⟨r, es, h⟩
end
end K44

set_option Elab.async false
set_option linter.all false
set_option maxRecDepth 100000
set_option maxHeartbeats 8000000
/-! ordered -/
namespace K44
open PySem PySem.Spec L2 SW
open PyProof.Rows hiding St
def ordL (g : G) : Nat → List Str → List Str
  | 0, f => f
  | n + 1, f => match (KK g).find? (ready g f) with
    | some x => ordL g n (f ++ [x])
    | none => f
theorem boolsOf_map {α : Type} (p : α → Bool) : ∀ l : List α, boolsOf (l.map fun x => PyData.bool (p x)) = some (l.map p)
  | [] => rfl
  | x :: l => by
    rw [List.map_cons]
    simp [boolsOf_map p l]
theorem find_filt {α : Type} (p : α → Bool) : ∀ l : List α, l.find? p = (l.filter p).head?
  | [] => rfl
  | x :: l => by
    rw [List.find?_cons, List.filter_cons]
    cases h : p x with
    | true => rfl
    | false => exact find_filt p l
/-- found so far -/
structure Fnd (g : G) (f : List Str) : Prop where
  nd : f.Nodup
  sub : ∀ x ∈ f, x ∈ keys g
theorem Fnd.ex {g : G} (hg : okG g) {f : List Str} (h : Fnd g f) (hl : f.length < g.length) : ∃ x ∈ keys g, x ∉ f := by
  rcases Classical.em (∃ x ∈ keys g, x ∉ f) with c | c
  · exact c
  · exfalso
    have := len_sub (keys g) f hg.2.1 fun x hx => by
      rcases Classical.em (x ∈ f) with q | q
      · exact q
      · exact absurd ⟨x, hx, q⟩ c
    unfold keys at this
    rw [List.length_map] at this
    omega
theorem next_some {g : G} (hf : Full g) (hg : okG g) (hr : ∀ x ∈ keys g, ring g x = none) {f : List Str} (h : Fnd g f) (hl : f.length < g.length) : ∃ x, (KK g).find? (ready g f) = some x ∧ x ∈ keys g ∧ x ∉ f := by
  obtain ⟨x, hx, hrx⟩ := next_ex hf hg hr (h.ex hg hl)
  cases hh : (KK g).find? (ready g f) with
  | none => exact absurd hrx (by simpa using List.find?_eq_none.mp hh x (mem_KK.mpr hx))
  | some y =>
    refine ⟨y, rfl, mem_KK.mp (List.mem_of_find?_eq_some hh), ?_⟩
    have := List.find?_some hh
    unfold ready at this
    rw [Bool.and_eq_true, decide_eq_true_eq] at this
    exact this.1
theorem Fnd.add {g : G} {f : List Str} (h : Fnd g f) {x : Str} (hx : x ∈ keys g) (hn : x ∉ f) : Fnd g (f ++ [x]) := ⟨List.nodup_append.mpr ⟨h.nd, by simp, fun a ha b hb e => hn (by rw [List.mem_singleton.mp hb] at e; rw [← e]; exact ha)⟩, fun y hy => by
  rcases List.mem_append.mp hy with q | q
  · exact h.sub y q
  · rw [List.mem_singleton.mp q]; exact hx⟩
def rdy (g : G) (f : List Str) (x : Str) : Bool := (nd g x).all fun y => decide (y ∈ f)
def owb : List MS := match wh_ordered_8 with
  | .whl _ b => b
  | _ => []
def owt : ME := match wh_ordered_8 with
  | .whl t _ => t
  | _ => .bad
section
variable {c : SW.Ctx} {us : List Unt} {g : G} (hg : okG g)
include hg
theorem nm_of {f : List Str} (h : Fnd g f) : ∀ x ∈ f, x ∈ NMZ := fun x hx => hg.2.2.1 x (h.sub x hx)
theorem l5_lc {f : List Str} (h : Fnd g f) {b3 : Option PyData} {b4 b5 b7 b9 : Option O} : evE c lc_ordered_5 (st us g b3 b4 b5 (some (.lst (nmsD f))) b7 b9) = .ok (.vl (.lst (nmsD ((KK g).filter fun x => !decide (x ∈ f))))) (st us g b3 b4 b5 (some (.lst (nmsD f))) b7 b9) := by
  have hf := nm_of hg h
  have e := lc_map (t := .name 3) (cond := evC c (some (.cmp .NotIn (.var 3) (.var 6))) (evE c (.var 3))) (ρ := st us g b3 b4 b5 (some (.lst (nmsD f))) b7 b9) (l := KK g) (ds := nmsD (KK g)) (e := PyData.str) (g := fun x => if (!decide (x ∈ f)) = true then some (.str x) else none) rfl (by cases b3 <;> rfl) (by cases b3 <;> rfl) (by rw [len_KK, sizeLine_eq]; have := hg.1; omega) fun x hx => by
    have hin := in_nms hf (hg.2.2.1 x (mem_KK.mp hx))
    by_cases q : x ∈ f
    · rw [decide_eq_true q] at hin
      simp [-E_inD_1, E_lcTurn_1, hin, q]
    · rw [decide_eq_false q] at hin
      simp [-E_inD_1, E_lcTurn_1, hin, q]
  rw [Std.filt_map] at e
  exact (Std.evI_val (x := .vl (.lst (nmsD (KK g)))) (ρ1 := st us g b3 b4 b5 (some (.lst (nmsD f))) b7 b9) (srt_keys hg rfl) rfl rfl).trans e
theorem l6_lc {f : List Str} (h : Fnd g f) (hfull : Full g) {x : Str} (hx : x ∈ keys g) {fo : O} (hfo : fo.data = .list (nmsD f)) {b4 b5 b7 b9 : Option O} : evE c lc_ordered_6 [some (.val (.list (usD us))), none, some (.dct (kvD (kvG g))), some (.val (.str x)), b4, b5, some fo, b7, none, b9] = .ok (.vl (.lst ((nd g x).map fun y => .bool (decide (y ∈ f))))) [some (.val (.list (usD us))), none, some (.dct (kvD (kvG g))), some (.val (.str x)), b4, b5, some fo, b7, none, b9] := by
  have hf := nm_of hg h
  have e1 := idx_kvG hx
  have e := lc_map (t := .name 8) (cond := evC c none (evE c (.cmp .In (.var 8) (.var 6)))) (ρ := [some (.val (.list (usD us))), none, some (.dct (kvD (kvG g))), some (.val (.str x)), b4, b5, some fo, b7, none, b9]) (l := nd g x) (ds := nmsD (nd g x)) (e := PyData.str) (g := fun y => some (.bool (decide (y ∈ f)))) rfl rfl rfl (by rw [sizeLine_eq]; have := (nd_ok hg hx).1; omega) fun y hy => by
    have hin := in_nms hf ((nd_ok hg hx).2 y hy)
    simp [-E_inD_1, E_lcTurn_1, hin, hfo]
  rw [Std.fmap_some] at e
  refine (Std.evI_val (x := .vl (.val (.list (nmsD (nd g x))))) (ρ1 := [some (.val (.list (usD us))), none, some (.dct (kvD (kvG g))), some (.val (.str x)), b4, b5, some fo, b7, none, b9]) ?_ rfl rfl).trans e
  simp [-E_idxD_4, e1]
theorem l7_lc {f : List Str} (h : Fnd g f) (hfull : Full g) {left : List Str} (hle : ∀ x ∈ left, x ∈ keys g) (hll : left.length ≤ 100) {b3 : Option PyData} {b4 b5 b9 : Option O} :
    evE c lc_ordered_7 (st us g b3 b4 b5 (some (.lst (nmsD f))) (some (.lst (nmsD left))) b9) = .ok (.vl (.lst (nmsD (left.filter (rdy g f))))) (st us g b3 b4 b5 (some (.lst (nmsD f))) (some (.val (.list (nmsD left)))) b9) := by
  have e := lc_map (t := .name 3) (cond := evC c (some (.blt .all lc_ordered_6)) (evE c (.var 3))) (ρ := st us g b3 b4 b5 (some (.lst (nmsD f))) (some (.val (.list (nmsD left)))) b9) (l := left) (ds := nmsD left) (e := PyData.str) (g := fun x => if rdy g f x = true then some (.str x) else none) rfl (by cases b3 <;> rfl) (by cases b3 <;> rfl) (by rw [sizeLine_eq]; omega) fun x hx => by
    have e6 := l6_lc (c := c) (us := us) hg h hfull (hle x hx) (fo := .lst (nmsD f)) rfl (b4 := b4) (b5 := b5) (b7 := some (.val (.list (nmsD left)))) (b9 := b9)
    have hb := boolsOf_map (fun y => decide (y ∈ f)) (nd g x)
    have ha : (((nd g x).map fun y => decide (y ∈ f)).all id) = rdy g f x := by unfold rdy; rw [List.all_map]; rfl
    cases hr : rdy g f x with
    | true =>
      rw [hr] at ha
      simp [-List.all_map, E_lcTurn_1, e6, hb, ha]
    | false =>
      rw [hr] at ha
      simp [-List.all_map, E_lcTurn_1, e6, hb, ha]
  rw [Std.filt_map] at e
  exact (Std.evI_val (x := .pl 7) (ρ1 := st us g b3 b4 b5 (some (.lst (nmsD f))) (some (.lst (nmsD left))) b9) rfl rfl rfl).trans e
theorem filt_two {f : List Str} : ((KK g).filter fun x => !decide (x ∈ f)).filter (rdy g f) = (KK g).filter (ready g f) := by
  rw [List.filter_filter]
  refine List.filter_congr fun x _ => ?_
  unfold ready rdy
  rw [Bool.and_comm]
  by_cases q : x ∈ f <;> simp [q]
theorem wh_loop (hfull : Full g) (hr : ∀ x ∈ keys g, ring g x = none) {n : Nat} {b3 : Option PyData} {b4 b5 b7 b9 : Option O} : Post (evS (cxAt rs fuelW n) 1 wh_ordered_8 (st us g b3 b4 b5 (some (.lst (nmsD []))) b7 b9)) (fun ρ => ∃ b3 b4 b5 b7 b9, ρ = st us g b3 b4 b5 (some (.lst (nmsD (ordL g g.length [])))) b7 b9) noR noE := by
  refine post_whl (whL_inv (α := Nat) (fun m => m) (fun m ρ => ∃ f b7 b9, ρ = st us g b3 b4 b5 (some (.lst (nmsD f))) b7 b9 ∧ Fnd g f ∧ f.length + m = g.length ∧ ordL g m f = ordL g g.length []) ?_ 100000 g.length _ ⟨[], b7, b9, rfl, ⟨.nil, fun _ h => (nomatch h)⟩, by simp, rfl⟩ (by have := hg.1; omega))
  rintro m ρ ⟨f, b7, b9, rfl, hfd, hl, eo⟩
  cases m with
  | zero =>
    right
    have hn : ¬ ((f.length : Int) < (g.length : Int)) := by omega
    have ht : evE (cxAt rs fuelW n) owt (st us g b3 b4 b5 (some (.lst (nmsD f))) b7 b9) = .ok (.vl (.val (.bool false))) (st us g b3 b4 b5 (some (.lst (nmsD f))) b7 b9) := by
      simp [owt, wh_ordered_8, len_nms, len_kvD, len_kvG, hn]
    refine ⟨_, ht, b3, b4, b5, b7, b9, ?_⟩
    rw [← eo]
    rfl
  | succ m =>
    left
    have hn : ((f.length : Int) < (g.length : Int)) := by omega
    have ht : evE (cxAt rs fuelW n) owt (st us g b3 b4 b5 (some (.lst (nmsD f))) b7 b9) = .ok (.vl (.val (.bool true))) (st us g b3 b4 b5 (some (.lst (nmsD f))) b7 b9) := by
      simp [owt, wh_ordered_8, len_nms, len_kvD, len_kvG, hn]
    obtain ⟨x, hx, hxk, hxf⟩ := next_some hfull hg hr hfd (by omega)
    have e5 := l5_lc (c := cxAt rs fuelW n) (us := us) hg hfd (b3 := b3) (b4 := b4) (b5 := b5) (b7 := b7) (b9 := b9)
    have t1 : evS (cxAt rs fuelW n) 1 (.asg (.name 7) lc_ordered_5) (st us g b3 b4 b5 (some (.lst (nmsD f))) b7 b9) = .nx (st us g b3 b4 b5 (some (.lst (nmsD f))) (some (.lst (nmsD ((KK g).filter fun x => !decide (x ∈ f))))) b9) := by
      simp [e5]
    have e7 := l7_lc (c := cxAt rs fuelW n) (us := us) hg hfd hfull (left := (KK g).filter fun x => !decide (x ∈ f)) (fun y hy => mem_KK.mp (List.mem_filter.mp hy).1) (by
      have := List.length_filter_le (fun x => !decide (x ∈ f)) (KK g)
      rw [len_KK] at this
      have := hg.1
      omega) (b3 := b3) (b4 := b4) (b5 := b5) (b9 := b9)
    rw [filt_two hg] at e7
    have t2 : evS (cxAt rs fuelW n) 1 (.asg (.name 9) lc_ordered_7) (st us g b3 b4 b5 (some (.lst (nmsD f))) (some (.lst (nmsD ((KK g).filter fun x => !decide (x ∈ f))))) b9) = .nx (st us g b3 b4 b5 (some (.lst (nmsD f))) (some (.val (.list (nmsD ((KK g).filter fun x => !decide (x ∈ f)))))) (some (.lst (nmsD ((KK g).filter (ready g f)))))) := by
      simp [e7]
    have hh : ((KK g).filter (ready g f)).head? = some x := by rw [← find_filt]; exact hx
    generalize (KK g).filter (ready g f) = R at t2 hh
    cases R with
    | nil => cases hh
    | cons y R =>
      have hyx : y = x := Option.some.inj hh
      subst hyx
      have z1 : f.length < sizeLine := by rw [sizeLine_eq]; have := hg.1; omega
      have t3 : evS (cxAt rs fuelW n) 1 (.expr (.mut .append 6 [(.idx (.var 9) (.lit (.int 0)))])) (st us g b3 b4 b5 (some (.lst (nmsD f))) (some (.val (.list (nmsD ((KK g).filter fun x => !decide (x ∈ f)))))) (some (.lst (nmsD (y :: R))))) = .nx (st us g b3 b4 b5 (some (.lst (nmsD f ++ [.str y]))) (some (.val (.list (nmsD ((KK g).filter fun x => !decide (x ∈ f)))))) (some (.lst (nmsD (y :: R))))) := by
        simp [nmsD, mutD, z1]
      rw [app_nms] at t3
      refine ⟨_, ht, post_step t1 (post_step t2 (post_step t3 (post_nil ⟨m, Nat.lt_succ_self _, f ++ [y], _, _, rfl, hfd.add hxk hxf, by rw [List.length_append, List.length_singleton]; omega, ?_⟩)))⟩
      rw [← eo]
      show _ = (match (KK g).find? (ready g f) with
        | some x => ordL g m (f ++ [x])
        | none => f)
      rw [hx]
end
end K44

set_option Elab.async false
set_option linter.all false
set_option maxRecDepth 100000
set_option maxHeartbeats 8000000
/-! ordered, told -/
namespace K44
open PySem PySem.Spec L2 SW
open PyProof.Rows hiding St
def outD (g : G) : PyData := match missing g with
  | some y => .tuple [.str "name", .tuple [.str y]]
  | none => match rings g with
    | some r => .tuple [.str "wrong", .list (nmsD r)]
    | none => .tuple [.str "told", .list (nmsD (ordL g g.length []))]
section
variable {n : Nat} {us : List Unt} (h : okUs us)
include h
theorem nodup_gOf : (([] : KV).map (·.1) ++ us.map Unt.nm).Nodup := by simpa using h.2.1
theorem kvG_gOf : bldS Unt.nm (fun u => .list (nmsD u.need)) [] us = kvG (gOf us) := by
  rw [bldS_nd _ _ _ _ (nodup_gOf h)]
  unfold kvG gOf
  rw [List.map_map]
  rfl
theorem dc_run : evE (cxAt rs fuelW (n + 7)) dc_ordered_1 [some (.val (.list (usD us))), none, none, none, none, none, none, none, none, none] = .ok (.vl (.dct (kvD (kvG (gOf us))))) [some (.val (.list (usD us))), none, none, none, none, none, none, none, none, none] := by
  have e := dc_map (t := .name 1) (cond := evC (cxAt rs fuelW (n + 7)) none (fun ρ => kTup (kTwo (evE (cxAt rs fuelW (n + 7)) (.call "needs_of" [(.var 1)])) (evE (cxAt rs fuelW (n + 7)) (.idx (.var 1) (.lit (.int 1))) ρ)))) (ρ := [some (.val (.list (usD us))), none, none, none, none, none, none, none, none, none]) (l := us) (ds := usD us) (e := Unt.D) (g := fun u => some (.str u.nm, .list (nmsD u.need))) rfl rfl rfl (by rw [sizeLine_eq]; have := h.1; omega) (fun u hu => by
    have en := needs_run (n := n) (h.2.2 u hu)
    have eu : idxD u.D (.int 1) = some (.str u.nm) := rfl
    simp [-E_idxD_2, E_lcTurn_1, eu, en]
    rfl) (fun u _ p hp => by cases hp; rfl)
  rw [Std.fmap_some] at e
  have e2 := bldS_D Unt.nm (fun u => .list (nmsD u.need)) us []
  rw [kvG_gOf h] at e2
  have e2 : (us.map fun x => ((.str x.nm : PyData), PyData.list (nmsD x.need))).foldl (fun acc p => dput acc p.1 p.2) [] = kvD (kvG (gOf us)) := e2
  rw [e2] at e
  exact (Std.evI_val (x := .pl 0) (ρ1 := [some (.val (.list (usD us))), none, none, none, none, none, none, none, none, none]) rfl rfl rfl).trans e
theorem ord_body : Post (evSs (cxAt rs fuelW (n + 7)) 1 f_ordered.body [some (.val (.list (usD us))), none, none, none, none, none, none, none, none, none]) (fun _ => False)
    (fun o ρ => missing (gOf us) = none ∧ rings (gOf us) = none ∧ o = .lst (nmsD (ordL (gOf us) (gOf us).length [])) ∧ endArgs [false] [.val (.list (usD us))] ρ = some [.val (.list (usD us))])
    (fun e => (∃ y, missing (gOf us) = some y ∧ e = ⟨"NameWrong", .tuple [.str y]⟩) ∨ (missing (gOf us) = none ∧ ∃ r, rings (gOf us) = some r ∧ e = ⟨"Wrong", .list (nmsD r)⟩)) := by
  have hg := okG_gOf h
  have ed := dc_run h (n := n)
  have s1 : evS (cxAt rs fuelW (n + 7)) 1 (.asg (.name 2) dc_ordered_1) [some (.val (.list (usD us))), none, none, none, none, none, none, none, none, none] = .nx (st us (gOf us) none none none none none none) := by
    simp [ed]
  refine post_step s1 (post_seq ((o3_loop (c := cxAt rs fuelW (n + 7)) (us := us) hg (b3 := none) (b4 := none) (b5 := none) (b6 := none) (b7 := none) (b9 := none)).mono ?_ (fun _ _ h => h.elim) fun e he => .inl he))
  rintro ρ ⟨hm, b3, b4, rfl⟩
  have hfull := full_of hm
  refine post_seq ((o4_loop (us := us) hg (n := n + 6) hfull (b3 := b3) (b4 := b4) (b5 := none) (b6 := none) (b7 := none) (b9 := none)).mono ?_ (fun _ _ h => h.elim) fun e ⟨r, h1, h2⟩ => .inr ⟨hm, r, h1, h2⟩)
  rintro ρ ⟨hr, b3, b5, rfl⟩
  refine post_step (s := .asg (.name 6) (.lstE [])) (ρ' := st us (gOf us) b3 b4 b5 (some (.lst (nmsD []))) none none) rfl ?_
  refine post_seq ((wh_loop (us := us) hg hfull (rings_of hr) (n := n + 7) (b3 := b3) (b4 := b4) (b5 := b5) (b7 := none) (b9 := none)).mono ?_ (fun _ _ h => h.elim) fun _ h => h.elim)
  rintro ρ ⟨b3, b4, b5, b7, b9, rfl⟩
  have er : evS (cxAt rs fuelW (n + 7)) 1 (.ret (.var 6)) (st us (gOf us) b3 b4 b5 (some (.lst (nmsD (ordL (gOf us) (gOf us).length [])))) b7 b9) = .rt (.lst (nmsD (ordL (gOf us) (gOf us).length []))) (st us (gOf us) b3 b4 b5 none b7 b9) := rfl
  exact post_seq (by rw [er, post_rt]; exact ⟨hm, hr, rfl, rfl⟩)
theorem ordered_run : (cxAt rs fuelW (n + 8)).call "ordered" [.val (.list (usD us))] = (match missing (gOf us) with
    | some y => .exc ⟨"NameWrong", .tuple [.str y]⟩ []
    | none => match rings (gOf us) with
      | some r => .exc ⟨"Wrong", .list (nmsD r)⟩ []
      | none => .ok (.lst (nmsD (ordL (gOf us) (gOf us).length []))) [.val (.list (usD us))]) := by
  rw [c_ordered]
  have hb := ord_body h (n := n)
  cases hm : missing (gOf us) with
  | some y =>
    refine run_exc (by simp [f_ordered]) (Post.mono hb (fun _ h => h) (fun o ρ q => by rw [hm] at q; exact nomatch q.1) fun e q => ?_)
    rcases q with ⟨z, q1, q2⟩ | ⟨q1, _⟩
    · rw [hm] at q1; cases q1; exact q2
    · rw [hm] at q1; cases q1
  | none =>
    cases hr : rings (gOf us) with
    | some r =>
      refine run_exc (by simp [f_ordered]) (Post.mono hb (fun _ h => h) (fun o ρ q => by rw [hr] at q; exact nomatch q.2.1) fun e q => ?_)
      rcases q with ⟨z, q1, q2⟩ | ⟨_, z, q1, q2⟩
      · rw [hm] at q1; cases q1
      · rw [hr] at q1; cases q1; exact q2
    | none =>
      refine run_post (by simp [f_ordered]) (Post.mono hb (fun _ h => h.elim) (fun o ρ q => ⟨q.2.2.1, q.2.2.2⟩) fun e q => ?_)
      rcases q with ⟨z, q1, _⟩ | ⟨_, z, q1, _⟩
      · rw [hm] at q1; cases q1
      · rw [hr] at q1; cases q1
theorem told_run {o : O} (ho : o = .lst (usD us) ∨ o = .val (.list (usD us))) : (cxAt rs fuelW (n + 9)).call "_law_told" [o] = .ok (.val (outD (gOf us))) [.val (.list (usD us))] := by
  rw [c_ltold]
  have e := ordered_run h (n := n)
  have c1 : catches ("NameWrong" : Str) ("Wrong" : Str) = false := by decide +kernel
  have c2 : catches ("Wrong" : Str) ("Wrong" : Str) = true := by decide +kernel
  have c3 : catches ("NameWrong" : Str) ("NameWrong" : Str) = true := by decide +kernel
  unfold outD
  cases hm : missing (gOf us) with
  | some y =>
    rw [hm] at e
    have e : (cxAt rs fuelW (n + 8)).call "ordered" [.val (.list (usD us))] = .exc ⟨"NameWrong", .tuple [.str y]⟩ [] := e
    rcases ho with rfl | rfl <;> simp [f__law_told, frzN, e, c3]
  | none =>
    rw [hm] at e
    cases hr : rings (gOf us) with
    | some r =>
      rw [hr] at e
      have e : (cxAt rs fuelW (n + 8)).call "ordered" [.val (.list (usD us))] = .exc ⟨"Wrong", .list (nmsD r)⟩ [] := e
      rcases ho with rfl | rfl <;> simp [f__law_told, frzN, e, c1, c2]
    | none =>
      rw [hr] at e
      have e : (cxAt rs fuelW (n + 8)).call "ordered" [.val (.list (usD us))] = .ok (.lst (nmsD (ordL (gOf us) (gOf us).length []))) [.val (.list (usD us))] := e
      rcases ho with rfl | rfl <;> simp [f__law_told, frzN, e]
end
end K44

set_option Elab.async false
set_option linter.all false
set_option maxRecDepth 100000
set_option maxHeartbeats 8000000
/-! the law's order: names that lack, rings -/
namespace K44
open PySem PySem.Spec L2 SW
open PyProof.Rows hiding St
abbrev ls (us : List Unt) (g : G) (b3 : Option PyData) (b4 b5 b6 b7 b8 : Option O) : Rho := [some (.val (.list (usD us))), none, some (.dct (kvD (kvG g))), b3.map O.val, b4, b5, b6, b7, b8, none]
def q2b : List MS := match fo__law_ordered_2 with
  | .forS _ _ _ b => b
  | _ => []
def q4b : List MS := match fo__law_ordered_4 with
  | .forS _ _ _ b => b
  | _ => []
def qwb : List MS := match wh__law_ordered_5 with
  | .whl _ b => b
  | _ => []
def qwt : ME := match wh__law_ordered_5 with
  | .whl t _ => t
  | _ => .bad
section
variable {c : SW.Ctx} {us : List Unt} {g : G} (hg : okG g) {o0 : O}
include hg
theorem q2_loop {x : Str} (hx : x ∈ keys g) {b4 b5 b6 b7 b8 : Option O} : Post (evS c 1 fo__law_ordered_2 (ls us g (some (.str x)) b4 b5 b6 b7 b8)) (fun ρ => ((nd g x).find? fun y => !decide (y ∈ keys g)) = none ∧ ∃ b4, ρ = ls us g (some (.str x)) b4 b5 b6 b7 b8) (fun o ρ => ∃ y, ((nd g x).find? fun y => !decide (y ∈ keys g)) = some y ∧ o = .val (.tuple [.str "name", .tuple [.str y]]) ∧ endArgs [false] [o0] ρ = some [.val (.list (usD us))]) noE := by
  have e1 := idx_kvG hx
  have el : evE c (.idx (.var 2) (.var 3)) (ls us g (some (.str x)) b4 b5 b6 b7 b8) = .ok (.vl (.val (.list (nmsD (nd g x))))) (ls us g (some (.str x)) b4 b5 b6 b7 b8) := by
    simp [-E_idxD_4, e1]
  refine post_for (x := .vl (.val (.list (nmsD (nd g x))))) (d := .list (nmsD (nd g x))) (ds := nmsD (nd g x)) el rfl rfl ?_
  refine Post.mono (foL_inv' PyData.str (nd g x) (fun l ρ => ((nd g x).find? fun y => !decide (y ∈ keys g)) = (l.find? fun y => !decide (y ∈ keys g)) ∧ ∃ b4, ρ = ls us g (some (.str x)) b4 b5 b6 b7 b8) (R := fun o ρ => ∃ y, ((nd g x).find? fun y => !decide (y ∈ keys g)) = some y ∧ o = .val (.tuple [.str "name", .tuple [.str y]]) ∧ endArgs [false] [o0] ρ = some [.val (.list (usD us))]) (E := noE) ?_ _ _ (fun _ h => h) ⟨rfl, b4, rfl⟩) (fun ρ h => h) (fun _ _ h => h) fun _ h => h
  rintro y hy l ρ ⟨es, b4, rfl⟩
  have hin := in_kvG (g := g) (x := y)
  refine ⟨ls us g (some (.str x)) (some (.val (.str y))) b5 b6 b7 b8, rfl, ?_⟩
  rw [Std.find_cons] at es
  by_cases h : y ∈ keys g
  · rw [decide_eq_true h] at hin es
    have key : Post (evSs c 1 q2b (ls us g (some (.str x)) (some (.val (.str y))) b5 b6 b7 b8)) (fun ρ => ρ = ls us g (some (.str x)) (some (.val (.str y))) b5 b6 b7 b8) noR noE := by
      simp [-E_inD_3, q2b, fo__law_ordered_2, hin]
    exact key.mono (fun ρ h => ⟨es, _, h⟩) (fun _ _ h => h.elim) fun _ h => h.elim
  · rw [decide_eq_false h] at hin es
    have key : Post (evSs c 1 q2b (ls us g (some (.str x)) (some (.val (.str y))) b5 b6 b7 b8)) (fun ρ => False) (fun o ρ => o = .val (.tuple [.str "name", .tuple [.str y]]) ∧ endArgs [false] [o0] ρ = some [.val (.list (usD us))]) noE := by
      simp [-E_inD_3, q2b, fo__law_ordered_2, hin]
    exact key.mono (fun ρ h => h.elim) (fun _ _ h => ⟨y, es, h.1, h.2⟩) fun _ h => h.elim
theorem q3_loop {b3 : Option PyData} {b4 b5 b6 b7 b8 : Option O} : Post (evS c 1 fo__law_ordered_3 (ls us g b3 b4 b5 b6 b7 b8)) (fun ρ => missing g = none ∧ ∃ b3 b4, ρ = ls us g b3 b4 b5 b6 b7 b8) (fun o ρ => ∃ y, missing g = some y ∧ o = .val (.tuple [.str "name", .tuple [.str y]]) ∧ endArgs [false] [o0] ρ = some [.val (.list (usD us))]) noE := by
  refine post_for (x := .vl (.lst (nmsD (KK g)))) (d := .list (nmsD (KK g))) (ds := nmsD (KK g)) (srt_keys hg rfl) rfl rfl ?_
  refine Post.mono (foL_inv' PyData.str (KK g) (fun l ρ => missing g = (l.findSome? fun x => (nd g x).find? fun y => !decide (y ∈ keys g)) ∧ ∃ b3 b4, ρ = ls us g b3 b4 b5 b6 b7 b8) (R := fun o ρ => ∃ y, missing g = some y ∧ o = .val (.tuple [.str "name", .tuple [.str y]]) ∧ endArgs [false] [o0] ρ = some [.val (.list (usD us))]) (E := noE) ?_ _ _ (fun _ h => h) ⟨rfl, b3, b4, rfl⟩) (fun ρ h => h) (fun _ _ h => h) fun _ h => h
  rintro x hx l ρ ⟨es, b3, b4, rfl⟩
  refine ⟨ls us g (some (.str x)) b4 b5 b6 b7 b8, rfl, post_seq ((q2_loop (c := c) (us := us) (o0 := o0) hg (mem_KK.mp hx) (b4 := b4) (b5 := b5) (b6 := b6) (b7 := b7) (b8 := b8)).mono ?_ ?_ (fun _ h => h))⟩
  · rintro ρ ⟨e1, b4, rfl⟩
    rw [List.findSome?_cons, e1] at es
    exact post_nil ⟨es, _, _, rfl⟩
  · rintro o ρ ⟨y, e1, e2, e3⟩
    rw [List.findSome?_cons, e1] at es
    exact ⟨y, es, e2, e3⟩
/-- one way's turn -/
theorem q4_loop (hf : Full g) {x : Str} (hx : x ∈ keys g) {w : List Str} {ws : List (List Str)} {seen : List Str} {b4 b7 b8 : Option O} (hgd : Good g x (w :: ws) seen) :
    Post (evS c 1 fo__law_ordered_4 (ls us g (some (.str x)) b4 (some (.lst (wsD (w :: ws)))) (some (.lst (nmsD seen))) b7 b8))
      (fun ρ => ∃ p b4, scan x w (nd g (lst w)) ws seen = .inr p ∧ ρ = ls us g (some (.str x)) b4 (some (.lst (wsD (w :: p.1)))) (some (.lst (nmsD p.2))) b7 b8)
      (fun o ρ => ∃ r, scan x w (nd g (lst w)) ws seen = .inl r ∧ o = .val (.tuple [.str "wrong", .list (nmsD r)]) ∧ endArgs [false] [o0] ρ = some [.val (.list (usD us))]) noE := by
  obtain ⟨w1, w2, w3⟩ := hgd.wn w (by simp)
  have hk : lst w ∈ keys g := w2 _ (lst_mem w1)
  have e1 := last_nms w1
  have e2 := idx_kvG hk
  have hnm := fun y (hy : y ∈ keys g) => hg.2.2.1 y hy
  have i0 : ∀ ws, atI (wsD (w :: ws)) 0 = some (.list (nmsD w)) := fun ws => by simp [wsD]
  have el : evE c (.idx (.var 2) (.idx (.idx (.var 5) (.lit (.int 0))) (.neg (.lit (.int 1))))) (ls us g (some (.str x)) b4 (some (.lst (wsD (w :: ws)))) (some (.lst (nmsD seen))) b7 b8) = .ok (.vl (.val (.list (nmsD (nd g (lst w)))))) (ls us g (some (.str x)) b4 (some (.lst (wsD (w :: ws)))) (some (.lst (nmsD seen))) b7 b8) := by
    simp [-E_idxD_4, i0, e1, e2]
  refine post_for (x := .vl (.val (.list (nmsD (nd g (lst w)))))) (d := .list (nmsD (nd g (lst w)))) (ds := nmsD (nd g (lst w))) el rfl rfl ?_
  refine Post.mono (foL_inv' PyData.str (nd g (lst w)) (fun l ρ => ∃ ws' seen' b4, ρ = ls us g (some (.str x)) b4 (some (.lst (wsD (w :: ws')))) (some (.lst (nmsD seen'))) b7 b8 ∧ scan x w (nd g (lst w)) ws seen = scan x w l ws' seen' ∧ Good g x ws' seen' ∧ w.length ≤ seen'.length + 1)
    (R := fun o ρ => ∃ r, scan x w (nd g (lst w)) ws seen = .inl r ∧ o = .val (.tuple [.str "wrong", .list (nmsD r)]) ∧ endArgs [false] [o0] ρ = some [.val (.list (usD us))]) (E := noE) ?_ _ _ (fun _ h => h) ⟨ws, seen, b4, rfl, rfl, hgd.pop, w3⟩) ?_ (fun _ _ h => h) fun _ h => h
  · rintro o ho l ρ ⟨ws', seen', b4, rfl, es, hgd', hl'⟩
    have ok := hf _ hk o ho
    have sx := strOk_NMZ (hnm x hx)
    have so := strOk_NMZ (hnm o ok)
    have hin := in_nms (l := seen') (fun y hy => hnm y (hgd'.sub y hy)) (hnm o ok)
    have l7 := hgd'.len hg
    have c1 := cat10 (a := w.length) (b := 1) (by omega) (by omega)
    have lw := hgd'.wl
    have z1 : seen'.length < sizeLine := by rw [sizeLine_eq]; omega
    have z2 : (w :: ws').length < sizeLine := by rw [sizeLine_eq, List.length_cons]; omega
    refine ⟨ls us g (some (.str x)) (some (.val (.str o))) (some (.lst (wsD (w :: ws')))) (some (.lst (nmsD seen'))) b7 b8, rfl, ?_⟩
    rw [scan_cons] at es
    by_cases h1 : o = x
    · subst h1
      rw [if_pos rfl] at es
      have e3 := app_nms w o
      have key : Post (evSs c 1 q4b (ls us g (some (.str o)) (some (.val (.str o))) (some (.lst (wsD (w :: ws')))) (some (.lst (nmsD seen'))) b7 b8)) (fun ρ => False) (fun y ρ => y = .val (.tuple [.str "wrong", .list (nmsD (w ++ [o]))]) ∧ endArgs [false] [o0] ρ = some [.val (.list (usD us))]) noE := by
        simp [q4b, fo__law_ordered_4, i0, so, len_nms, c1, e3]
      exact key.mono (fun _ h => h.elim) (fun y ρ h => ⟨_, es, h.1, h.2⟩) fun _ h => h
    · rw [if_neg h1] at es
      have h1' : (o == x) = false := by simpa using h1
      by_cases h2 : o ∈ seen'
      · rw [if_pos h2] at es
        rw [decide_eq_true h2] at hin
        have key : Post (evSs c 1 q4b (ls us g (some (.str x)) (some (.val (.str o))) (some (.lst (wsD (w :: ws')))) (some (.lst (nmsD seen'))) b7 b8)) (fun ρ => ρ = ls us g (some (.str x)) (some (.val (.str o))) (some (.lst (wsD (w :: ws')))) (some (.lst (nmsD seen'))) b7 b8) noR noE := by
          simp [-E_inD_1, q4b, fo__law_ordered_4, so, sx, h1', hin]
        exact key.mono (fun ρ h => ⟨ws', seen', _, h, es, hgd', hl'⟩) (fun _ _ h => h.elim) fun _ h => h
      · rw [if_neg h2] at es
        rw [decide_eq_false h2] at hin
        have z2' : (wsD (w :: ws')).length < sizeLine := by rw [len_ws]; exact z2
        have key : Post (evSs c 1 q4b (ls us g (some (.str x)) (some (.val (.str o))) (some (.lst (wsD (w :: ws')))) (some (.lst (nmsD seen'))) b7 b8)) (fun ρ => ρ = ls us g (some (.str x)) (some (.val (.str o))) (some (.lst (wsD (w :: ws') ++ [.list (nmsD w ++ [.str o])]))) (some (.lst (nmsD seen' ++ [.str o]))) b7 b8) noR noE := by
          simp [-E_inD_1, q4b, fo__law_ordered_4, so, sx, h1', hin, mutD, i0, len_nms, z1, z2', c1]
        refine key.mono (fun ρ h => ⟨ws' ++ [w ++ [o]], seen' ++ [o], some (.val (.str o)), ?_, es, hgd'.more w2 hl' ok h1 h2, by rw [List.length_append]; omega⟩) (fun _ _ h => h.elim) fun _ h => h
        rw [h, app_nms, app_nms, app_ws]
        rfl
  · rintro ρ ⟨ws', seen', b4, rfl, es, hgd', hl'⟩
    exact ⟨(ws', seen'), b4, es, rfl⟩
theorem q5_loop (hf : Full g) {x : Str} (hx : x ∈ keys g) {n : Nat} {b4 b7 b8 : Option O} : Post (evS (cxAt rs fuelW n) 1 wh__law_ordered_5 (ls us g (some (.str x)) b4 (some (.lst (wsD [[x]]))) (some (.lst (nmsD []))) b7 b8))
    (fun ρ => ring g x = none ∧ ∃ b4 b5 b6, ρ = ls us g (some (.str x)) b4 b5 b6 b7 b8) (fun o ρ => ∃ r, ring g x = some r ∧ o = .val (.tuple [.str "wrong", .list (nmsD r)]) ∧ endArgs [false] [o0] ρ = some [.val (.list (usD us))]) noE := by
  refine post_whl (whL_inv (α := Nat × List (List Str) × List Str) (fun a => a.1) (fun a ρ => ∃ b4, ρ = ls us g (some (.str x)) b4 (some (.lst (wsD a.2.1))) (some (.lst (nmsD a.2.2))) b7 b8 ∧ ring g x = bfs g x a.1 a.2.1 a.2.2 ∧ Good g x a.2.1 a.2.2 ∧ a.2.1.length + (7 - a.2.2.length) < a.1)
    ?_ 100000 (20, [[x]], []) _ ⟨b4, rfl, rfl, ⟨.nil, fun _ h => (nomatch h), fun h => (nomatch h), fun w hw => by rw [List.mem_singleton.mp hw]; exact ⟨by simp, fun y hy => by rw [List.mem_singleton.mp hy]; exact hx, by simp⟩, by simp⟩, by simp⟩ (by show 20 < 100000; omega))
  rintro ⟨m, ws, seen⟩ ρ ⟨b4, rfl, er, hgd, hm⟩
  dsimp only at er hgd hm ⊢
  cases ws with
  | nil =>
    right
    refine ⟨_, rfl, ?_, b4, _, _, rfl⟩
    rw [er]
    cases m <;> rfl
  | cons w ws =>
    left
    have hp : (0 : Int) < ((w :: ws).length : Int) := by rw [List.length_cons]; omega
    have ht : evE (cxAt rs fuelW n) qwt (ls us g (some (.str x)) b4 (some (.lst (wsD (w :: ws)))) (some (.lst (nmsD seen))) b7 b8) = .ok (.vl (.val (.bool true))) (ls us g (some (.str x)) b4 (some (.lst (wsD (w :: ws)))) (some (.lst (nmsD seen))) b7 b8) := by
      simp [qwt, wh__law_ordered_5, len_ws]
    refine ⟨_, ht, post_seq ((q4_loop (c := cxAt rs fuelW n) (us := us) (o0 := o0) hg hf hx (b4 := b4) (b7 := b7) (b8 := b8) hgd).mono ?_ ?_ fun _ h => h)⟩
    · rintro ρ ⟨p, b4, es, rfl⟩
      have t2 : evS (cxAt rs fuelW n) 1 (.asg (.name 5) (.slc (.var 5) (some (.lit (.int 1))) none)) (ls us g (some (.str x)) b4 (some (.lst (wsD (w :: p.1)))) (some (.lst (nmsD p.2))) b7 b8) = .nx (ls us g (some (.str x)) b4 (some (.lst (wsD p.1))) (some (.lst (nmsD p.2))) b7 b8) := by
        have := cutL_drop (wsD (w :: p.1)) 1 (by rw [len_ws]; simp)
        have : cutL (wsD (w :: p.1)) (some 1) none = wsD p.1 := this
        simp [this]
      refine post_step t2 (post_nil ?_)
      obtain ⟨w1, w2, w3⟩ := hgd.wn w (by simp)
      obtain ⟨a1, a2, a3, a4, a5, a6⟩ := scan_end _ _ _ _ w2 w3 (hf _ (w2 _ (lst_mem w1))) hgd.pop es
      have l7 := a1.len hg
      have l8 := hgd.len hg
      rw [List.length_cons] at hm
      cases m with
      | zero => omega
      | succ m =>
        refine ⟨(m, p.1, p.2), Nat.lt_succ_self _, _, rfl, ?_, a1, by dsimp only; omega⟩
        rw [er]
        show (match scan x w (nd g (lst w)) ws seen with
          | .inl r => some r
          | .inr p => bfs g x m p.1 p.2) = _
        rw [es]
    · rintro o ρ ⟨r, es, rfl, ea⟩
      refine ⟨r, ?_, rfl, ea⟩
      rw [er]
      cases m with
      | zero => omega
      | succ m =>
        show (match scan x w (nd g (lst w)) ws seen with
          | .inl r => some r
          | .inr p => bfs g x m p.1 p.2) = _
        rw [es]
theorem q6_loop (hf : Full g) {n : Nat} {b3 : Option PyData} {b4 b5 b6 b7 b8 : Option O} : Post (evS (cxAt rs fuelW n) 1 fo__law_ordered_6 (ls us g b3 b4 b5 b6 b7 b8)) (fun ρ => rings g = none ∧ ∃ b3 b4 b5 b6, ρ = ls us g b3 b4 b5 b6 b7 b8) (fun o ρ => ∃ r, rings g = some r ∧ o = .val (.tuple [.str "wrong", .list (nmsD r)]) ∧ endArgs [false] [o0] ρ = some [.val (.list (usD us))]) noE := by
  refine post_for (x := .vl (.lst (nmsD (KK g)))) (d := .list (nmsD (KK g))) (ds := nmsD (KK g)) (srt_keys hg rfl) rfl rfl ?_
  refine Post.mono (foL_inv' PyData.str (KK g) (fun l ρ => rings g = l.findSome? (ring g) ∧ ∃ b3 b4 b5 b6, ρ = ls us g b3 b4 b5 b6 b7 b8) (R := fun o ρ => ∃ r, rings g = some r ∧ o = .val (.tuple [.str "wrong", .list (nmsD r)]) ∧ endArgs [false] [o0] ρ = some [.val (.list (usD us))]) (E := noE) ?_ _ _ (fun _ h => h) ⟨rfl, b3, b4, b5, b6, rfl⟩) (fun ρ h => h) (fun _ _ h => h) fun _ h => h
  rintro x hx l ρ ⟨es, b3, b4, b5, b6, rfl⟩
  refine ⟨ls us g (some (.str x)) b4 b5 b6 b7 b8, rfl, ?_⟩
  refine post_step (s := .par 5 6 (.lstE [(.lstE [(.var 3)])]) (.lstE [])) (ρ' := ls us g (some (.str x)) b4 (some (.lst (wsD [[x]]))) (some (.lst (nmsD []))) b7 b8) rfl ?_
  rw [List.findSome?_cons] at es
  refine post_seq ((q5_loop (us := us) (o0 := o0) hg hf (mem_KK.mp hx) (n := n) (b4 := b4) (b7 := b7) (b8 := b8)).mono ?_ ?_ fun _ h => h)
  · rintro ρ ⟨e1, b4, b5, b6, rfl⟩
    rw [e1] at es
    exact post_nil ⟨es, _, _, _, _, rfl⟩
  · rintro o ρ ⟨r, e1, e2, e3⟩
    rw [e1] at es
    exact ⟨r, es, e2, e3⟩
end
end K44

set_option Elab.async false
set_option linter.all false
set_option maxRecDepth 100000
set_option maxHeartbeats 8000000
/-! the law's order -/
namespace K44
open PySem PySem.Spec L2 SW
open PyProof.Rows hiding St
theorem pairsOf_map {α : Type} (f g : α → PyData) : ∀ l : List α, SW.pairsOf (l.map fun x => PyData.tuple [f x, g x]) = some (l.map fun x => (f x, g x))
  | [] => rfl
  | x :: l => by
    rw [List.map_cons]
    simp [pairsOf_map f g l]
section
variable {c : SW.Ctx} {us : List Unt} {g : G} (hg : okG g)
include hg
theorem p7_lc {f : List Str} (h : Fnd g f) {x : Str} (hx : x ∈ keys g) {b4 b5 b6 b8 : Option O} : evE c lc__law_ordered_7 [some (.val (.list (usD us))), none, some (.dct (kvD (kvG g))), some (.val (.str x)), b4, b5, b6, some (.lst (nmsD f)), b8, none] = .ok (.vl (.lst ((nd g x).map fun y => .bool (decide (y ∈ f))))) [some (.val (.list (usD us))), none, some (.dct (kvD (kvG g))), some (.val (.str x)), b4, b5, b6, some (.lst (nmsD f)), b8, none] := by
  have hf := nm_of hg h
  have e1 := idx_kvG hx
  have e := lc_map (t := .name 9) (cond := evC c none (evE c (.cmp .In (.var 9) (.var 7)))) (ρ := [some (.val (.list (usD us))), none, some (.dct (kvD (kvG g))), some (.val (.str x)), b4, b5, b6, some (.lst (nmsD f)), b8, none]) (l := nd g x) (ds := nmsD (nd g x)) (e := PyData.str) (g := fun y => some (.bool (decide (y ∈ f)))) rfl rfl rfl (by rw [sizeLine_eq]; have := (nd_ok hg hx).1; omega) fun y hy => by
    have hin := in_nms hf ((nd_ok hg hx).2 y hy)
    simp [-E_inD_1, E_lcTurn_1, hin]
  rw [Std.fmap_some] at e
  refine (Std.evI_val (x := .vl (.val (.list (nmsD (nd g x))))) (ρ1 := [some (.val (.list (usD us))), none, some (.dct (kvD (kvG g))), some (.val (.str x)), b4, b5, b6, some (.lst (nmsD f)), b8, none]) ?_ rfl rfl).trans e
  simp [-E_idxD_4, e1]
theorem p8_lc {f : List Str} (h : Fnd g f) {b3 : Option PyData} {b4 b5 b6 b8 : Option O} : evE c lc__law_ordered_8 (ls us g b3 b4 b5 b6 (some (.lst (nmsD f))) b8) = .ok (.vl (.lst (nmsD ((KK g).filter (ready g f))))) (ls us g b3 b4 b5 b6 (some (.lst (nmsD f))) b8) := by
  have hf := nm_of hg h
  have e := lc_map (t := .name 3) (cond := evC c (some (.andE (.cmp .NotIn (.var 3) (.var 7)) (.blt .all lc__law_ordered_7))) (evE c (.var 3))) (ρ := ls us g b3 b4 b5 b6 (some (.lst (nmsD f))) b8) (l := KK g) (ds := nmsD (KK g)) (e := PyData.str) (g := fun x => if ready g f x = true then some (.str x) else none) rfl (by cases b3 <;> rfl) (by cases b3 <;> rfl) (by rw [len_KK, sizeLine_eq]; have := hg.1; omega) fun x hx => by
    have hin := in_nms hf (hg.2.2.1 x (mem_KK.mp hx))
    have e7 := p7_lc (c := c) (us := us) hg h (mem_KK.mp hx) (b4 := b4) (b5 := b5) (b6 := b6) (b8 := b8)
    have hb := boolsOf_map (fun y => decide (y ∈ f)) (nd g x)
    have ha : (((nd g x).map fun y => decide (y ∈ f)).all id) = (nd g x).all fun y => decide (y ∈ f) := by rw [List.all_map]; rfl
    by_cases q : x ∈ f
    · rw [decide_eq_true q] at hin
      have hr : ready g f x = false := by unfold ready; simp [q]
      simp [-E_inD_1, E_lcTurn_1, hin, hr]
    · rw [decide_eq_false q] at hin
      have hr : ready g f x = (nd g x).all fun y => decide (y ∈ f) := by unfold ready; simp [q]
      cases hall : (nd g x).all fun y => decide (y ∈ f) with
      | true =>
        rw [hall] at hr ha
        simp [-List.all_map, -E_inD_1, E_lcTurn_1, hin, hr, e7, hb, ha]
      | false =>
        rw [hall] at hr ha
        simp [-List.all_map, -E_inD_1, E_lcTurn_1, hin, hr, e7, hb, ha]
  rw [Std.filt_map] at e
  exact (Std.evI_val (x := .vl (.lst (nmsD (KK g)))) (ρ1 := ls us g b3 b4 b5 b6 (some (.lst (nmsD f))) b8) (srt_keys hg rfl) rfl rfl).trans e
def q9b : List MS := match fo__law_ordered_9 with
  | .forS _ _ _ b => b
  | _ => []
theorem q9_loop (hfull : Full g) (hr : ∀ x ∈ keys g, ring g x = none) {b3 : Option PyData} {b4 b5 b6 b8 : Option O} : Post (evS c 1 fo__law_ordered_9 (ls us g b3 b4 b5 b6 (some (.lst (nmsD []))) b8)) (fun ρ => ∃ b8, ρ = ls us g b3 b4 b5 b6 (some (.lst (nmsD (ordL g g.length [])))) b8) noR noE := by
  have ev : evVs c [(.blt .len (.var 2))] (ls us g b3 b4 b5 b6 (some (.lst (nmsD []))) b8) = .ok [.int ((g.length : Nat) : Int)] (ls us g b3 b4 b5 b6 (some (.lst (nmsD []))) b8) := by
    simp [len_kvD, len_kvG]
  refine post_rng ev (rng_nat (by have := hg.1; omega)) (Post.mono (foR_inv g.length (fun i ρ => ∃ f b8, ρ = ls us g b3 b4 b5 b6 (some (.lst (nmsD f))) b8 ∧ Fnd g f ∧ f.length = i ∧ ordL g (g.length - i) f = ordL g g.length []) (R := noR) (E := noE) ?_ ⟨[], b8, rfl, ⟨.nil, fun _ h => (nomatch h)⟩, rfl, by simp⟩) ?_ (fun _ _ h => h) fun _ h => h)
  · rintro i hi ρ ⟨f, b8, rfl, hfd, hl, eo⟩
    obtain ⟨x, hx, hxk, hxf⟩ := next_some hfull hg hr hfd (by omega)
    have e8 := p8_lc (c := c) (us := us) hg hfd (b3 := b3) (b4 := b4) (b5 := b5) (b6 := b6) (b8 := some (.val (.int (i : Int))))
    have hh : ((KK g).filter (ready g f)).head? = some x := by rw [← find_filt]; exact hx
    generalize (KK g).filter (ready g f) = R at e8 hh
    cases R with
    | nil => cases hh
    | cons y R =>
      have hyx : y = x := Option.some.inj hh
      subst hyx
      have z1 : f.length < sizeLine := by rw [sizeLine_eq]; have := hg.1; omega
      have i0 : atI (nmsD (y :: R)) 0 = some (.str y) := by simp [nmsD]
      refine ⟨ls us g b3 b4 b5 b6 (some (.lst (nmsD f))) (some (.val (.int (i : Int)))), rfl, ?_⟩
      have t3 : evS c 1 (.expr (.mut .append 7 [(.idx lc__law_ordered_8 (.lit (.int 0)))])) (ls us g b3 b4 b5 b6 (some (.lst (nmsD f))) (some (.val (.int (i : Int))))) = .nx (ls us g b3 b4 b5 b6 (some (.lst (nmsD f ++ [.str y]))) (some (.val (.int (i : Int))))) := by
        simp [e8, i0, mutD, len_nms, z1]
      rw [app_nms] at t3
      refine post_step t3 (post_nil ⟨f ++ [y], _, rfl, hfd.add hxk hxf, by rw [List.length_append, List.length_singleton]; omega, ?_⟩)
      rw [← eo]
      rw [show g.length - i = (g.length - (i + 1)) + 1 by omega]
      show _ = (match (KK g).find? (ready g f) with
        | some x => ordL g (g.length - (i + 1)) (f ++ [x])
        | none => f)
      rw [hx]
  · rintro ρ ⟨f, b8, rfl, hfd, hl, eo⟩
    refine ⟨b8, ?_⟩
    rw [← eo, Nat.sub_self]
    rfl
end
section
variable {n : Nat} {us : List Unt} (h : okUs us)
include h
theorem p1_lc {o0 : O} (ho : o0 = .lst (usD us) ∨ o0 = .val (.list (usD us))) : evE (cxAt rs fuelW (n + 7)) (.blt .dict lc__law_ordered_1) [some o0, none, none, none, none, none, none, none, none, none] = .ok (.vl (.dct (kvD (kvG (gOf us))))) [some (.val (.list (usD us))), none, none, none, none, none, none, none, none, none] := by
  have e := lc_map (t := .name 1) (cond := evC (cxAt rs fuelW (n + 7)) none (evE (cxAt rs fuelW (n + 7)) (.tupE [(.idx (.var 1) (.lit (.int 1))), (.call "_law_needs" [(.var 1)])]))) (ρ := [some (.val (.list (usD us))), none, none, none, none, none, none, none, none, none]) (l := us) (ds := usD us) (e := Unt.D) (g := fun u => some (.tuple [.str u.nm, .list (nmsD u.need)])) rfl rfl rfl (by rw [sizeLine_eq]; have := h.1; omega) (fun u hu => by
    have en := lneeds_run (n := n) (h.2.2 u hu)
    have eu : idxD u.D (.int 1) = some (.str u.nm) := rfl
    simp [-E_idxD_2, E_lcTurn_1, eu, en]
    rfl)
  rw [Std.fmap_some] at e
  have el : evE (cxAt rs fuelW (n + 7)) lc__law_ordered_1 [some o0, none, none, none, none, none, none, none, none, none] = .ok (.vl (.lst (us.map fun u => .tuple [.str u.nm, .list (nmsD u.need)]))) [some (.val (.list (usD us))), none, none, none, none, none, none, none, none, none] := by
    rcases ho with rfl | rfl
    · exact (Std.evI_val (x := .pl 0) (ρ1 := [some (.lst (usD us)), none, none, none, none, none, none, none, none, none]) rfl rfl rfl).trans e
    · exact (Std.evI_val (x := .pl 0) (ρ1 := [some (.val (.list (usD us))), none, none, none, none, none, none, none, none, none]) rfl rfl rfl).trans e
  have e1 := pairsOf_map (fun u : Unt => PyData.str u.nm) (fun u => PyData.list (nmsD u.need)) us
  have e2 := dputAll_D Unt.nm (fun u => PyData.list (nmsD u.need)) us []
  rw [kvG_gOf h] at e2
  have e2 : dputAll [] (us.map fun x => ((.str x.nm : PyData), PyData.list (nmsD x.need))) = some (kvD (kvG (gOf us))) := e2
  have hl : us.length ≤ 1000000 := by have := h.1; omega
  simp [el, e1, e2, hl]
theorem lordered_run {o0 : O} (ho : o0 = .lst (usD us) ∨ o0 = .val (.list (usD us))) : (cxAt rs fuelW (n + 8)).call "_law_ordered" [o0] = .ok (.val (outD (gOf us))) [.val (.list (usD us))] := by
  rw [c_lordered]
  have hg := okG_gOf h
  have ed := p1_lc h (n := n) ho
  refine run_post (by simp [f__law_ordered]) ?_
  show Post (evSs (cxAt rs fuelW (n + 7)) 1 f__law_ordered.body [some o0, none, none, none, none, none, none, none, none, none]) _ (fun o ρ => o = .val (outD (gOf us)) ∧ endArgs [false] [o0] ρ = some [.val (.list (usD us))]) _
  have s1 : evS (cxAt rs fuelW (n + 7)) 1 (.asg (.name 2) (.blt .dict lc__law_ordered_1)) [some o0, none, none, none, none, none, none, none, none, none] = .nx (ls us (gOf us) none none none none none none) := by
    show kBind (.name 2) (evE (cxAt rs fuelW (n + 7)) (.blt .dict lc__law_ordered_1) _) = _
    rw [ed]
    rfl
  refine post_step s1 (post_seq ((q3_loop (c := cxAt rs fuelW (n + 7)) (us := us) (o0 := o0) hg (b3 := none) (b4 := none) (b5 := none) (b6 := none) (b7 := none) (b8 := none)).mono ?_ ?_ fun _ h => h))
  · rintro ρ ⟨hm, b3, b4, rfl⟩
    have hfull := full_of hm
    refine post_seq ((q6_loop (us := us) (o0 := o0) hg (n := n + 7) hfull (b3 := b3) (b4 := b4) (b5 := none) (b6 := none) (b7 := none) (b8 := none)).mono ?_ ?_ fun _ h => h)
    · rintro ρ ⟨hr, b3, b4, b5, b6, rfl⟩
      refine post_step (s := .asg (.name 7) (.lstE [])) (ρ' := ls us (gOf us) b3 b4 b5 b6 (some (.lst (nmsD []))) none) rfl ?_
      refine post_seq ((q9_loop (c := cxAt rs fuelW (n + 7)) (us := us) hg hfull (rings_of hr) (b3 := b3) (b4 := b4) (b5 := b5) (b6 := b6) (b8 := none)).mono ?_ (fun _ _ h => h.elim) fun _ h => h)
      rintro ρ ⟨b8, rfl⟩
      have er : evS (cxAt rs fuelW (n + 7)) 1 (.ret (.tupE [(.lit (.str "told")), (.var 7)])) (ls us (gOf us) b3 b4 b5 b6 (some (.lst (nmsD (ordL (gOf us) (gOf us).length [])))) b8) = .rt (.val (.tuple [.str "told", .list (nmsD (ordL (gOf us) (gOf us).length []))])) (ls us (gOf us) b3 b4 b5 b6 (some (.val (.list (nmsD (ordL (gOf us) (gOf us).length []))))) b8) := rfl
      have eo : outD (gOf us) = .tuple [.str "told", .list (nmsD (ordL (gOf us) (gOf us).length []))] := by
        unfold outD
        rw [hm, hr]
      exact post_seq (by rw [er, post_rt]; exact ⟨by rw [eo], rfl⟩)
    · rintro o ρ ⟨r, hr, rfl, ea⟩
      refine ⟨?_, ea⟩
      unfold outD
      rw [hm, hr]
  · rintro o ρ ⟨y, hm, rfl, ea⟩
    refine ⟨?_, ea⟩
    unfold outD
    rw [hm]
end
end K44

set_option Elab.async false
set_option linter.all false
set_option maxRecDepth 100000
set_option maxHeartbeats 16000000
/-! a small unit -/
namespace K44
open PySem PySem.Spec L2 SW
open PyProof.Rows hiding St
def sub : List MS := match fo__law_small_unit_1 with
  | .forS _ _ _ b => b
  | _ => []
theorem draw {n : Nat} {ds : List D} {limit : Int} (h : Std.DW ds) (h1 : 0 < limit) (h2 : limit < 1000000000) :
    ∃ ds' v, (cxAt rs fuelW (n + 1)).call "_law_draw" [.lst ds, .val (.int limit)] = .ok (.val (.int v)) [.lst ds', .val (.int limit)] ∧ Std.DW ds' ∧ 0 ≤ v ∧ v < limit := by
  obtain ⟨ds', v, e, r⟩ := Std.draw_run (c := cxAt rs fuelW n) h h1 h2
  exact ⟨ds', v, (c_draw n _).trans e, r⟩
def itsD (l : List It) : List PyData := l.map It.D
theorem itsD_len (l : List It) : (itsD l).length = l.length := by unfold itsD; rw [List.length_map]
theorem itsD_app (l : List It) (i : It) : itsD l ++ [i.D] = itsD (l ++ [i]) := by unfold itsD; rw [List.map_append]; rfl
theorem nk : ∀ k < 4, (((k : Nat) : Int).natAbs.log2 < 1920) ∧ catOk (Str.ofString "t").length (Str.ofString (toString ((k : Nat) : Int))).length = true ∧ catOk (Str.ofString "v").length (Str.ofString (toString ((k : Nat) : Int))).length = true := by decide +kernel
theorem small_turn {n : Nat} {ds : List D} (hd : Std.DW ds) {nm : PyData} {os : List Str} (hos : os ≠ [] ∧ os.length ≤ 20 ∧ ∀ x ∈ os, x ∈ NMZ) {l : List It} (hl : l.length ≤ 10) {k : Nat} (hk : k < 4) {b5 b6 b7 b8 b9 : Option O} :
    Post (evSs (cxAt rs fuelW (n + 1)) 3 sub [some (.lst ds), some (.val nm), some (.lst (nmsD os)), some (.lst (itsD l)), some (.val (.int (k : Int))), b5, b6, b7, b8, b9])
      (fun ρ => ∃ ds it b4 b5 b6 b7 b8 b9, Std.DW ds ∧ it.ok ∧ ρ = [some (.lst ds), some (.val nm), some (.lst (nmsD os)), some (.lst (itsD (l ++ [it]))), b4, b5, b6, b7, b8, b9]) noR noE := by
  obtain ⟨k1, k2, k3⟩ := nk k hk
  have k1 : k.log2 < 1920 := k1
  have k2 : catOk (Str.ofString "t").length (Str.ofString ((k : Int).repr)).length = true := k2
  have k3 : catOk (Str.ofString "v").length (Str.ofString ((k : Int).repr)).length = true := k3
  have hol : 0 < os.length := List.length_pos_iff.mpr hos.1
  obtain ⟨d1, v, e1, w1, v1, v2⟩ := draw (n := n) (limit := (os.length : Int)) hd (by omega) (by have := hos.2.1; omega)
  obtain ⟨j, rfl⟩ : ∃ j : Nat, v = j := ⟨v.toNat, by omega⟩
  have hj : j < os.length := by omega
  have ei : atI (nmsD os) (j : Int) = some (.str os[j]) := by
    rw [atI_nat' _ _ (by rw [len_nms]; exact hj)]
    unfold nmsD
    simp [hj]
  have ho : os[j] ∈ NMZ := hos.2.2 _ (List.getElem_mem hj)
  generalize os[j] = o at ei ho
  have ll := len_nms os
  have t1 : evS (cxAt rs fuelW (n + 1)) 3 (.asg (.name 5) (.idx (.var 2) (.call "_law_draw" [(.var 0), (.blt .len (.var 2))]))) [some (.lst ds), some (.val nm), some (.lst (nmsD os)), some (.lst (itsD l)), some (.val (.int (k : Int))), b5, b6, b7, b8, b9] = .nx [some (.lst d1), some (.val nm), some (.lst (nmsD os)), some (.lst (itsD l)), some (.val (.int (k : Int))), some (.val (.str o)), b6, b7, b8, b9] := by
    simp [ll, e1, ei]
  refine post_step t1 ?_
  obtain ⟨d2, u, e2, w2, u1, u2⟩ := draw (n := n) (limit := 2) w1 (by decide) (by decide)
  have tv : ∃ x : Str, x ∈ (["t", "v"] : List Str) ∧ atI [PyData.str "t", .str "v"] u = some (.str x) := by
    have : u = 0 ∨ u = 1 := by omega
    rcases this with rfl | rfl
    · exact ⟨"t", by simp, rfl⟩
    · exact ⟨"v", by simp, rfl⟩
  obtain ⟨x, hx, ex⟩ := tv
  have t2 : evS (cxAt rs fuelW (n + 1)) 3 (.asg (.name 6) (.tupE [(.var 5), (.idx (.lstE [(.lit (.str "t")), (.lit (.str "v"))]) (.call "_law_draw" [(.var 0), (.lit (.int 2))]))])) [some (.lst d1), some (.val nm), some (.lst (nmsD os)), some (.lst (itsD l)), some (.val (.int (k : Int))), some (.val (.str o)), b6, b7, b8, b9] = .nx [some (.lst d2), some (.val nm), some (.lst (nmsD os)), some (.lst (itsD l)), some (.val (.int (k : Int))), some (.val (.str o)), some (.val (pth (o, x))), b7, b8, b9] := by
    simp [e2, ex]
  refine post_step t2 ?_
  have hp : okP (o, x) := ⟨ho, hx⟩
  generalize (o, x) = p at hp
  obtain ⟨d3, q, e3, w3, q1, q2⟩ := draw (n := n) (limit := 6) w2 (by decide) (by decide)
  have t3 : evS (cxAt rs fuelW (n + 1)) 3 (.asg (.name 7) (.call "_law_draw" [(.var 0), (.lit (.int 6))])) [some (.lst d2), some (.val nm), some (.lst (nmsD os)), some (.lst (itsD l)), some (.val (.int (k : Int))), some (.val (.str o)), some (.val (pth p)), b7, b8, b9] = .nx [some (.lst d3), some (.val nm), some (.lst (nmsD os)), some (.lst (itsD l)), some (.val (.int (k : Int))), some (.val (.str o)), some (.val (pth p)), some (.val (.int q)), b8, b9] := by
    simp [e3]
  refine post_step t3 ?_
  have z1 : (itsD l).length < sizeLine := by rw [itsD_len, sizeLine_eq]; omega
  have wrap : ∀ (it : It) (b9' : Option O), it.k = k → it.p = p → Post (evSs (cxAt rs fuelW (n + 1)) 3 (sub.drop 3) [some (.lst d3), some (.val nm), some (.lst (nmsD os)), some (.lst (itsD l)), some (.val (.int (k : Int))), some (.val (.str o)), some (.val (pth p)), some (.val (.int q)), b8, b9]) (fun ρ => ρ = [some (.lst d3), some (.val nm), some (.lst (nmsD os)), some (.lst (itsD l ++ [it.D])), some (.val (.int (k : Int))), some (.val (.str o)), some (.val (pth p)), some (.val (.int q)), some (.val it.D), b9']) noR noE →
      Post (evSs (cxAt rs fuelW (n + 1)) 3 (sub.drop 3) [some (.lst d3), some (.val nm), some (.lst (nmsD os)), some (.lst (itsD l)), some (.val (.int (k : Int))), some (.val (.str o)), some (.val (pth p)), some (.val (.int q)), b8, b9]) (fun ρ => ∃ ds it b4 b5 b6 b7 b8 b9, Std.DW ds ∧ it.ok ∧ ρ = [some (.lst ds), some (.val nm), some (.lst (nmsD os)), some (.lst (itsD (l ++ [it]))), b4, b5, b6, b7, b8, b9]) noR noE := fun it b9' ik ip hh => by
    refine hh.mono (fun ρ e => ?_) (fun _ _ h => h) fun _ h => h
    rw [itsD_app] at e
    exact ⟨d3, it, _, _, _, _, _, _, w3, ⟨by rw [ik]; exact hk, by rw [ip]; exact hp⟩, e⟩
  have go : Post (evSs (cxAt rs fuelW (n + 1)) 3 (sub.drop 3) [some (.lst d3), some (.val nm), some (.lst (nmsD os)), some (.lst (itsD l)), some (.val (.int (k : Int))), some (.val (.str o)), some (.val (pth p)), some (.val (.int q)), b8, b9]) (fun ρ => ∃ ds it b4 b5 b6 b7 b8 b9, Std.DW ds ∧ it.ok ∧ ρ = [some (.lst ds), some (.val nm), some (.lst (nmsD os)), some (.lst (itsD (l ++ [it]))), b4, b5, b6, b7, b8, b9]) noR noE := by
    have three : q = 0 ∨ q = 1 ∨ q = 2 ∨ q = 3 ∨ q = 4 ∨ q = 5 := by omega
    rcases three with rfl | rfl | rfl | rfl | rfl | rfl
    · exact wrap ⟨.ty, k, p⟩ b9 rfl rfl (by simp [sub, fo__law_small_unit_1, mnI, mutD, k1, k2, k3, z1, It.D, tn, vn])
    · exact wrap ⟨.vt, k, p⟩ b9 rfl rfl (by simp [sub, fo__law_small_unit_1, mnI, mutD, k1, k2, k3, z1, It.D, tn, vn])
    · exact wrap ⟨.va, k, p⟩ b9 rfl rfl (by simp [sub, fo__law_small_unit_1, mnI, mutD, k1, k2, k3, z1, It.D, tn, vn])
    · exact wrap ⟨.vn, k, p⟩ (some (.val (en p))) rfl rfl (by simp [sub, fo__law_small_unit_1, mnI, mutD, k1, k2, k3, z1, It.D, tn, vn])
    · exact wrap ⟨.vf, k, p⟩ (some (.val (ef p))) rfl rfl (by simp [sub, fo__law_small_unit_1, mnI, mutD, k1, k2, k3, z1, It.D, tn, vn])
    · exact wrap ⟨.vc, k, p⟩ (some (.val (ec p))) rfl rfl (by simp [sub, fo__law_small_unit_1, mnI, mutD, k1, k2, k3, z1, It.D, tn, vn])
  exact go
end K44

set_option Elab.async false
set_option linter.all false
set_option maxRecDepth 100000
set_option maxHeartbeats 16000000
/-! units drawn -/
namespace K44
open PySem PySem.Spec L2 SW
open PyProof.Rows hiding St
theorem small_run {n : Nat} {ds : List D} (hd : Std.DW ds) {nm : Str} (hn : nm ∈ NMZ) {os : List Str} (hos : os ≠ [] ∧ os.length ≤ 20 ∧ ∀ x ∈ os, x ∈ NMZ) :
    ∃ ds' u, (cxAt rs fuelW (n + 2)).call "_law_small_unit" [.lst ds, .val (.str nm), .lst (nmsD os)] = .ok (.val (Unt.D u)) [.lst ds', .val (.str nm), .lst (nmsD os)] ∧ Std.DW ds' ∧ u.nm = nm ∧ u.ok := by
  rw [c_small]
  have key : ∃ o os', runFn (cxAt rs fuelW (n + 1)) f__law_small_unit [.lst ds, .val (.str nm), .lst (nmsD os)] = .ok o os' ∧ ∃ ds' u, o = .val (Unt.D u) ∧ os' = [.lst ds', .val (.str nm), .lst (nmsD os)] ∧ Std.DW ds' ∧ u.nm = nm ∧ u.ok := by
    refine run_ex (by simp [f__law_small_unit]) ?_
    show Post (evSs (cxAt rs fuelW (n + 1)) 3 f__law_small_unit.body [some (.lst ds), some (.val (.str nm)), some (.lst (nmsD os)), none, none, none, none, none, none, none]) _ _ _
    refine post_step (s := .asg (.name 3) (.lstE [])) (ρ' := [some (.lst ds), some (.val (.str nm)), some (.lst (nmsD os)), some (.lst (itsD [])), none, none, none, none, none, none]) rfl ?_
    obtain ⟨d1, v, e1, w1, v1, v2⟩ := draw (n := n) (limit := 4) hd (by decide) (by decide)
    obtain ⟨j, rfl⟩ : ∃ j : Nat, v = j := ⟨v.toNat, by omega⟩
    have ev : evVs (cxAt rs fuelW (n + 1)) [(.call "_law_draw" [(.var 0), (.lit (.int 4))])] [some (.lst ds), some (.val (.str nm)), some (.lst (nmsD os)), some (.lst (itsD [])), none, none, none, none, none, none] = .ok [.int ((j : Nat) : Int)] [some (.lst d1), some (.val (.str nm)), some (.lst (nmsD os)), some (.lst (itsD [])), none, none, none, none, none, none] := by
      simp [e1]
    refine post_seq (s := fo__law_small_unit_1) (post_rng ev (rng_nat (by omega)) (Post.mono (foR_inv j (fun i ρ => ∃ ds l b4 b5 b6 b7 b8 b9, Std.DW ds ∧ l.length = i ∧ (∀ it ∈ l, it.ok) ∧ ρ = [some (.lst ds), some (.val (.str nm)), some (.lst (nmsD os)), some (.lst (itsD l)), b4, b5, b6, b7, b8, b9]) (R := fun _ _ => False) (E := noE) ?_ ⟨d1, [], none, none, none, none, none, none, w1, rfl, fun _ h => (nomatch h), rfl⟩) ?_ (fun _ _ h => h.elim) fun _ h => h))
    · rintro i hi ρ ⟨ds, l, b4, b5, b6, b7, b8, b9, hd, hl, hit, rfl⟩
      refine ⟨[some (.lst ds), some (.val (.str nm)), some (.lst (nmsD os)), some (.lst (itsD l)), some (.val (.int (i : Int))), b5, b6, b7, b8, b9], rfl, (small_turn (n := n) hd (nm := .str nm) hos (l := l) (by omega) (k := i) (by omega)).mono ?_ (fun _ _ h => h.elim) fun _ h => h⟩
      rintro ρ ⟨ds', it, c4, c5, c6, c7, c8, c9, hd', hok, rfl⟩
      exact ⟨ds', l ++ [it], c4, c5, c6, c7, c8, c9, hd', by rw [List.length_append, List.length_singleton]; omega, fun x hx => by
        rcases List.mem_append.mp hx with q | q
        · exact hit x q
        · rw [List.mem_singleton.mp q]; exact hok, rfl⟩
    · rintro ρ ⟨ds', l, b4, b5, b6, b7, b8, b9, hd', hl, hit, rfl⟩
      have er : evS (cxAt rs fuelW (n + 1)) 3 (.ret (.tupE [(.lit (.str "unit")), (.var 1), (.blt .tuple (.var 3))])) [some (.lst ds'), some (.val (.str nm)), some (.lst (nmsD os)), some (.lst (itsD l)), b4, b5, b6, b7, b8, b9] = .rt (.val (Unt.D ⟨nm, l⟩)) [some (.lst ds'), some (.val (.str nm)), some (.lst (nmsD os)), some (.lst (itsD l)), b4, b5, b6, b7, b8, b9] := rfl
      exact post_seq (by rw [er, post_rt]; exact ⟨_, rfl, ds', ⟨nm, l⟩, rfl, rfl, hd', rfl, hn, by show l.length ≤ 4; omega, hit⟩)
  obtain ⟨o, os', e, ds', u, rfl, rfl, h1, h2, h3⟩ := key
  exact ⟨ds', u, e, h1, h2, h3⟩
/-! ### the law's loop -/
abbrev N7 : List Str := ["A", "B", "C2", "D", "Ee", "F", "G"]
def f1b : List MS := match fo_law_1 with
  | .forS _ _ _ b => b
  | _ => []
/-- names owned, or given to all -/
def NmO (o : O) (nms : List Str) : Prop := o = .lst (nmsD nms) ∨ o = .val (.list (nmsD nms))
abbrev lw (a0 : Option O) (ds : List D) (a2 : Option O) (o3 : O) (us : List Unt) (a5 a6 a7 a9 : Option O) : Rho := [a0, some (.lst ds), a2, some o3, some (.lst (usD us)), a5, a6, a7, none, a9]
theorem usD_len (us : List Unt) : (usD us).length = us.length := by unfold usD; rw [List.length_map]
theorem usD_app (us : List Unt) (u : Unt) : usD us ++ [u.D] = usD (us ++ [u]) := by unfold usD; rw [List.map_append]; rfl
theorem f1_turn {n : Nat} {a0 a2 a6 a7 a9 : Option O} {ds : List D} (hd : Std.DW ds) {o3 : O} {nms : List Str} (ho : NmO o3 nms) (hl : nms.length ≤ 7) (hm : ∀ x ∈ nms, x ∈ NMZ) {us : List Unt} (hu : us.length ≤ 20) {k : Nat} (hk : k < nms.length) :
    Post (evSs (cxAt rs fuelW (n + 2)) 1 f1b (lw a0 ds a2 o3 us (some (.val (.int (k : Int)))) a6 a7 a9))
      (fun ρ => ∃ ds' o3' u a6, Std.DW ds' ∧ NmO o3' nms ∧ u.nm = nms[k] ∧ u.ok ∧ ρ = lw a0 ds' a2 o3' (us ++ [u]) (some (.val (.int (k : Int)))) a6 a7 a9) noR noE := by
  have s1 : ∃ ds1 o1 os, Std.DW ds1 ∧ NmO o1 nms ∧ (os ≠ [] ∧ os.length ≤ 7 ∧ ∀ x ∈ os, x ∈ NMZ) ∧ ∃ oo, NmO oo os ∧ evS (cxAt rs fuelW (n + 2)) 1 (.asg (.name 6) (.ifE (.andE (.cmp .Gt (.call "_law_draw" [(.var 1), (.lit (.int 3))]) (.lit (.int 0))) (.cmp .Gt (.var 5) (.lit (.int 0)))) (.slc (.var 3) none (some (.var 5))) (.var 3))) (lw a0 ds a2 o3 us (some (.val (.int (k : Int)))) a6 a7 a9) = .nx (lw a0 ds1 a2 o1 us (some (.val (.int (k : Int)))) (some oo) a7 a9) := by
    obtain ⟨d1, v, e1, w1, v1, v2⟩ := draw (n := n + 1) (limit := 3) hd (by decide) (by decide)
    have h0 : nms ≠ [] := List.length_pos_iff.mp (by omega)
    by_cases hv : 0 < v
    · by_cases hk0 : 0 < k
      · have ec := cutL_take (nmsD nms) k (by rw [len_nms]; omega)
        have et : (nmsD nms).take k = nmsD (nms.take k) := by unfold nmsD; rw [List.map_take]
        rw [et] at ec
        refine ⟨d1, o3, nms.take k, w1, ho, ⟨List.length_pos_iff.mp (by rw [List.length_take]; omega), by rw [List.length_take]; omega, fun x hx => hm x (List.mem_of_mem_take hx)⟩, .lst (nmsD (nms.take k)), .inl rfl, ?_⟩
        rcases ho with rfl | rfl <;> simp [e1, hv, hk0, ec]
      · refine ⟨d1, .val (.list (nmsD nms)), nms, w1, .inr rfl, ⟨h0, hl, hm⟩, .val (.list (nmsD nms)), .inr rfl, ?_⟩
        rcases ho with rfl | rfl <;> simp [e1, hv, hk0]
    · refine ⟨d1, .val (.list (nmsD nms)), nms, w1, .inr rfl, ⟨h0, hl, hm⟩, .val (.list (nmsD nms)), .inr rfl, ?_⟩
      rcases ho with rfl | rfl <;> simp [e1, hv]
  obtain ⟨d1, o1, os, w1, ho1, hos, oo, hoo, e1⟩ := s1
  have s2 : ∃ ds2 os2, Std.DW ds2 ∧ (os2 ≠ [] ∧ os2.length ≤ 20 ∧ ∀ x ∈ os2, x ∈ NMZ) ∧ evS (cxAt rs fuelW (n + 2)) 1 (.asg (.name 6) (.bin .Add (.var 6) (.ifE (.cmp .Eq (.call "_law_draw" [(.var 1), (.lit (.int 12))]) (.lit (.int 0))) (.lstE [(.lit (.str "Zz"))]) (.lstE [])))) (lw a0 d1 a2 o1 us (some (.val (.int (k : Int)))) (some oo) a7 a9) = .nx (lw a0 ds2 a2 o1 us (some (.val (.int (k : Int)))) (some (.lst (nmsD os2))) a7 a9) := by
    obtain ⟨d2, v, e2, w2, v1, v2⟩ := draw (n := n + 1) (limit := 12) w1 (by decide) (by decide)
    obtain ⟨h1, h2, h3⟩ := hos
    have c1 := cat10 (a := os.length) (b := 1) (by omega) (by omega)
    have c0 := cat10 (a := os.length) (b := 0) (by omega) (by omega)
    have ll := len_nms os
    by_cases hv : v = 0
    · subst hv
      have ea := app_nms os "Zz"
      refine ⟨d2, os ++ [("Zz" : Str)], w2, ⟨by simp, by rw [List.length_append, List.length_singleton]; omega, fun x hx => ?_⟩, ?_⟩
      · rcases List.mem_append.mp hx with q | q
        · exact h3 x q
        · rw [List.mem_singleton.mp q]; simp
      · rcases hoo with rfl | rfl <;> simp [e2, ll, c1, ea]
    · have hv' : (v == 0) = false := by simpa using hv
      refine ⟨d2, os, w2, ⟨h1, by omega, h3⟩, ?_⟩
      rcases hoo with rfl | rfl <;> simp [e2, hv', ll, c0]
  obtain ⟨d2, os2, w2, hos2, e2⟩ := s2
  have hmk : nms[k] ∈ NMZ := hm _ (List.getElem_mem hk)
  obtain ⟨d3, u, e3, w3, hun, huo⟩ := small_run (n := n) w2 hmk hos2
  have ei : atI (nmsD nms) (k : Int) = some (.str nms[k]) := by
    rw [atI_nat' _ _ (by rw [len_nms]; exact hk)]
    unfold nmsD
    simp [hk]
  have z1 : (usD us).length < sizeLine := by rw [usD_len, sizeLine_eq]; omega
  have t3 : evS (cxAt rs fuelW (n + 2)) 1 (.expr (.mut .append 4 [(.call "_law_small_unit" [(.var 1), (.idx (.var 3) (.var 5)), (.var 6)])])) (lw a0 d2 a2 o1 us (some (.val (.int (k : Int)))) (some (.lst (nmsD os2))) a7 a9) = .nx (lw a0 d3 a2 o1 (us ++ [u]) (some (.val (.int (k : Int)))) (some (.lst (nmsD os2))) a7 a9) := by
    have ea := usD_app us u
    rcases ho1 with rfl | rfl <;> simp [ei, e3, mutD, z1, ea]
  exact post_step e1 (post_step e2 (post_step t3 (post_nil ⟨d3, o1, u, _, w3, ho1, hun, huo, rfl⟩)))
end K44

set_option Elab.async false
set_option linter.all false
set_option maxRecDepth 100000
set_option maxHeartbeats 16000000
/-! units in a drawn order; what may be compared -/
namespace K44
open PySem PySem.Spec L2 SW
open PyProof.Rows hiding St
theorem f1_loop {n : Nat} {a0 a2 a6 a7 a9 : Option O} {b5 : Option PyData} {ds : List D} (hd : Std.DW ds) {nms : List Str} (hl : nms.length ≤ 7) (hm : ∀ x ∈ nms, x ∈ NMZ) :
    Post (evS (cxAt rs fuelW (n + 2)) 1 fo_law_1 (lw a0 ds a2 (.lst (nmsD nms)) [] (b5.map O.val) a6 a7 a9))
      (fun ρ => ∃ ds o3 us b5 a6, Std.DW ds ∧ us.map Unt.nm = nms ∧ (∀ u ∈ us, Unt.ok u) ∧ ρ = lw a0 ds a2 o3 us (Option.map O.val b5) a6 a7 a9) noR noE := by
  have ev : evVs (cxAt rs fuelW (n + 2)) [(.blt .len (.var 3))] (lw a0 ds a2 (.lst (nmsD nms)) [] (b5.map O.val) a6 a7 a9) = .ok [.int ((nms.length : Nat) : Int)] (lw a0 ds a2 (.lst (nmsD nms)) [] (b5.map O.val) a6 a7 a9) := by
    simp [len_nms]
  refine post_rng ev (rng_nat (by omega)) (Post.mono (foR_inv nms.length (fun i ρ => ∃ ds o3 us b5 a6, Std.DW ds ∧ NmO o3 nms ∧ us.map Unt.nm = nms.take i ∧ (∀ u ∈ us, Unt.ok u) ∧ ρ = lw a0 ds a2 o3 us (Option.map O.val b5) a6 a7 a9) (R := noR) (E := noE) ?_ ⟨ds, _, [], b5, a6, hd, .inl rfl, by simp, fun _ h => (nomatch h), rfl⟩) ?_ (fun _ _ h => h) fun _ h => h)
  · rintro i hi ρ ⟨ds, o3, us, b5, a6, hd, ho, hu, hok, rfl⟩
    have hul : us.length = i := by
      have := congrArg List.length hu
      rw [List.length_map, List.length_take] at this
      omega
    refine ⟨lw a0 ds a2 o3 us (some (.val (.int (i : Int)))) a6 a7 a9, rfl, (f1_turn (n := n) hd ho hl hm (us := us) (by omega) hi).mono ?_ (fun _ _ h => h) fun _ h => h⟩
    rintro ρ ⟨ds', o3', u, a6, hd', ho', hn, huo, rfl⟩
    refine ⟨ds', o3', us ++ [u], some (.int (i : Int)), a6, hd', ho', ?_, fun x hx => ?_, rfl⟩
    · rw [List.map_append, hu, List.take_add_one, List.getElem?_eq_getElem hi, ← hn]
      rfl
    · rcases List.mem_append.mp hx with q | q
      · exact hok x q
      · rw [List.mem_singleton.mp q]; exact huo
  · rintro ρ ⟨ds, o3, us, b5, a6, hd, ho, hu, hok, rfl⟩
    rw [List.take_length] at hu
    exact ⟨ds, o3, us, b5, a6, hd, hu, hok, rfl⟩
theorem pop_at {rem : List Unt} {v : Int} (h0 : 0 ≤ v) (h1 : v < rem.length) (hr : rem.length ≤ 1000) (hl : v.toNat < rem.length) : mutD .popAt (usD rem) [.int v] = some (rem[v.toNat].D, usD (rem.eraseIdx v.toNat)) := by
  have e1 : seqIndex? v (usD rem).length = some v.toNat := by
    unfold seqIndex?
    rw [usD_len]
    simp
    omega
  rw [E_mutD_3, if_pos (by omega), e1]
  unfold usD
  simp [hl, erase_map]
theorem pop_lc {n : Nat} {ds : List D} (hd : Std.DW ds) {us : List Unt} (hu : us.length ≤ 12) {a0 a2 a6 a7 a9 : Option O} {o3 : O} {b5 : Option PyData} :
    ∃ ds' us' rem, evE (cxAt rs fuelW (n + 1)) lc_law_2 (lw a0 ds a2 o3 us (b5.map O.val) a6 a7 a9) = .ok (.vl (.lst (usD us'))) (lw a0 ds' a2 o3 rem (b5.map O.val) a6 a7 a9) ∧ Std.DW ds' ∧ us'.Perm us := by
  obtain ⟨vs, ⟨d2, rem⟩, e2, ul, w2, up⟩ := lcAll_hist (t := .name 5) (cond := evC (cxAt rs fuelW (n + 1)) none (evE (cxAt rs fuelW (n + 1)) (.mut .popAt 4 [(.call "_law_draw" [(.var 1), (.blt .len (.var 4))])]))) (E := Unt.D) (P := fun hist (p : List D × List Unt) => Std.DW p.1 ∧ (hist ++ p.2).Perm us) (ρ0 := fun p => lw a0 p.1 a2 o3 p.2 (b5.map O.val) a6 a7 a9) (ρ := fun p => lw a0 p.1 a2 o3 p.2 none a6 a7 a9) (n := us.length) (fun _ => by cases b5 <;> rfl) (fun _ => rfl) (fun _ _ => by cases b5 <;> rfl) (fun hist p hl h => by
    obtain ⟨ds, rem⟩ := p
    obtain ⟨hd, hp⟩ := h
    have hpl := hp.length_eq
    rw [List.length_append] at hpl
    dsimp only at hd hp hpl ⊢
    obtain ⟨d1, v, e1, w1, v1, v2⟩ := draw (n := n) (limit := (rem.length : Int)) hd (by omega) (by omega)
    have hvl : v.toNat < rem.length := by omega
    have ep := pop_at v1 v2 (by omega) hvl
    have hrl := usD_len rem
    refine ⟨(d1, rem.eraseIdx v.toNat), rem[v.toNat], ?_, w1, ?_⟩
    · simp [-E_mutD_3, E_lcTurn_1, hrl, e1, ep]
    · rw [List.append_assoc]
      exact ((List.Perm.append_left hist (erase_perm rem _ hvl))).trans hp) (x := (ds, us)) ⟨hd, by simp⟩ (by omega)
  have rg := rng_nat (n := us.length) (by omega)
  refine ⟨d2, vs, rem, (Std.evI_rng (ρ' := lw a0 ds a2 o3 us (b5.map O.val) a6 a7 a9) ?_ rg).trans e2, w2, ?_⟩
  · have hrl := usD_len us
    simp [hrl]
  · dsimp only at up
    have h1 := up.length_eq
    rw [List.length_append, ul] at h1
    have : rem = [] := List.eq_nil_of_length_eq_zero (by omega)
    subst this
    rw [List.append_nil] at up
    exact up
/-! what may be compared -/
theorem oD_str {k : Nat} {s : Str} : Std.okD k (.str s) = Std.okS s := by cases k <;> rfl
theorem oD_int {k : Nat} {i : Int} : Std.okD k (.int i) = true := by cases k <;> rfl
theorem oD_bool {k : Nat} {i : Bool} : Std.okD k (.bool i) = true := by cases k <;> rfl
theorem oD_none {k : Nat} : Std.okD k .none = true := by cases k <;> rfl
theorem oD_tup {k : Nat} {ds : List PyData} : Std.okD (k + 1) (.tuple ds) = (ds.all (Std.okD k) && decide (ds.length ≤ 1000)) := rfl
theorem okS_w : ∀ s ∈ (["type", "value", "list", "path", "fun", "int", "var", "x", "add", "nil", "call", "unit", "name", "wrong", "told"] : List Str), Std.okS s = true := by decide +kernel
theorem okS_tn : ∀ k < 4, Std.okS (tn k) = true ∧ Std.okS (vn k) = true := by decide +kernel
theorem okD_it {i : It} (h : i.ok) : Std.okD 7 i.D = true := by
  obtain ⟨kd, k, p⟩ := i
  obtain ⟨hk, hp⟩ := h
  have h1 := okS_NMZ _ hp.1
  have h2 := okS_tv _ hp.2
  obtain ⟨h3, h4⟩ := okS_tn k hk
  dsimp only at h1 h2 h3 h4
  have w1 := okS_w "type" (by simp)
  have w2 := okS_w "value" (by simp)
  have w3 := okS_w "list" (by simp)
  have w4 := okS_w "path" (by simp)
  have w5 := okS_w "fun" (by simp)
  have w6 := okS_w "int" (by simp)
  have w7 := okS_w "var" (by simp)
  have w8 := okS_w "x" (by simp)
  have w9 := okS_w "add" (by simp)
  have w10 := okS_w "nil" (by simp)
  have w11 := okS_w "call" (by simp)
  cases kd <;> simp [It.D, oD_tup, oD_str, oD_int, oD_bool, oD_none, h1, h2, h3, h4, w1, w2, w3, w4, w5, w6, w7, w8, w9, w10, w11]
theorem okD_unt {u : Unt} (h : u.ok) : Std.okD 9 u.D = true := Std.okD_tup (fun d hd => by
  simp only [List.mem_cons, List.not_mem_nil, or_false] at hd
  rcases hd with rfl | rfl | rfl
  · exact oD_str.trans (okS_w "unit" (by simp))
  · exact oD_str.trans (okS_NMZ _ h.1)
  · exact Std.okD_tup (fun d hd => by
      obtain ⟨i, hi, rfl⟩ := List.mem_map.mp hd
      exact okD_it (h.2.2 i hi)) (by rw [List.length_map]; have := h.2.1; omega)) (by simp)
theorem okD_nms {k : Nat} {l : List Str} (h : ∀ x ∈ l, x ∈ NMZ) (hl : l.length ≤ 100) : Std.okD (k + 1) (.list (nmsD l)) = true := Std.okD_lst (fun d hd => by
  obtain ⟨x, hx, rfl⟩ := List.mem_map.mp hd
  exact oD_str.trans (okS_NMZ x (h x hx))) (by rw [len_nms]; omega)
theorem okD_uses {u : Unt} (h : u.ok) : Std.okD 8 (.list u.uses) = true := Std.okD_lst (fun d hd => by
  unfold Unt.uses at hd
  rw [srtT_SU] at hd
  obtain ⟨k, hk, rfl⟩ := List.mem_map.mp hd
  obtain ⟨i, hi, rfl⟩ := List.mem_map.mp (SU_mem hk)
  have hp := (h.2.2 i hi).2
  refine Std.okD_tup (fun d hd => ?_) (by simp [It.row])
  simp only [It.row, List.map_cons, List.map_nil, List.mem_cons, List.not_mem_nil, or_false] at hd
  rcases hd with rfl | rfl | rfl
  · exact oD_str.trans (okS_NMZ _ hp.1)
  · refine oD_str.trans (okS_w _ ?_)
    cases i.kd <;> simp [Kd.u]
  · exact oD_str.trans (okS_tv _ hp.2)) (by
  unfold Unt.uses
  rw [srtT_SU, List.length_map]
  have := SU_len u.rows
  have := rows_len h
  omega)
end K44

set_option Elab.async false
set_option linter.all false
set_option maxRecDepth 100000
set_option maxHeartbeats 16000000
/-! the law -/
namespace K44
open PySem PySem.Spec L2 SW
open PyProof.Rows hiding St
theorem scan_inl {x : Str} {w : List Str} {r : List Str} : ∀ (os : List Str) (ws : List (List Str)) (seen : List Str), scan x w os ws seen = .inl r → r = w ++ [x]
  | [], ws, seen, e => by cases e
  | o :: os, ws, seen, e => by
    rw [scan_cons] at e
    split at e
    · cases e; rfl
    · split at e
      · exact scan_inl os _ _ e
      · exact scan_inl os _ _ e
theorem bfs_some {g : G} (hf : Full g) (hg : okG g) {x : Str} (hx : x ∈ keys g) {r : List Str} : ∀ (n : Nat) (ws : List (List Str)) (seen : List Str), Good g x ws seen → bfs g x n ws seen = some r → (∀ y ∈ r, y ∈ keys g) ∧ r.length ≤ 9
  | 0, _, _, _, e => by cases e
  | n + 1, [], seen, _, e => by cases e
  | n + 1, w :: ws, seen, hgd, e => by
    obtain ⟨w1, w2, w3⟩ := hgd.wn w (by simp)
    have hk : lst w ∈ keys g := w2 _ (lst_mem w1)
    have e : (match scan x w (nd g (lst w)) ws seen with
      | .inl r => some r
      | .inr p => bfs g x n p.1 p.2) = some r := e
    cases hs : scan x w (nd g (lst w)) ws seen with
    | inl r' =>
      rw [hs] at e
      cases e
      have er := scan_inl _ _ _ hs
      have l8 := hgd.len hg
      rw [er]
      refine ⟨fun y hy => ?_, by rw [List.length_append, List.length_singleton]; omega⟩
      rcases List.mem_append.mp hy with q | q
      · exact w2 y q
      · rw [List.mem_singleton.mp q]; exact hx
    | inr p =>
      rw [hs] at e
      obtain ⟨a1, _⟩ := scan_end _ _ _ _ w2 w3 (hf _ hk) hgd.pop hs
      exact bfs_some hf hg hx n p.1 p.2 a1 e
theorem ord_mem {g : G} : ∀ (n : Nat) (f : List Str), (∀ x ∈ f, x ∈ keys g) → (∀ x ∈ ordL g n f, x ∈ keys g) ∧ (ordL g n f).length ≤ f.length + n
  | 0, f, h => ⟨h, Nat.le_refl _⟩
  | n + 1, f, h => by
    show (∀ x ∈ (match (KK g).find? (ready g f) with
      | some x => ordL g n (f ++ [x])
      | none => f), x ∈ keys g) ∧ (match (KK g).find? (ready g f) with
      | some x => ordL g n (f ++ [x])
      | none => f).length ≤ _
    cases hh : (KK g).find? (ready g f) with
    | none => exact ⟨h, Nat.le_add_right _ _⟩
    | some x =>
      have hx := mem_KK.mp (List.mem_of_find?_eq_some hh)
      obtain ⟨a, b⟩ := ord_mem n (f ++ [x]) fun y hy => by
        rcases List.mem_append.mp hy with q | q
        · exact h y q
        · rw [List.mem_singleton.mp q]; exact hx
      rw [List.length_append, List.length_singleton] at b
      exact ⟨a, Nat.le_trans b (Nat.le_of_eq (by rw [Nat.add_assoc, Nat.add_comm 1 n]))⟩
theorem okD_out {g : G} (hg : okG g) : Std.okD 3 (outD g) = true := by
  unfold outD
  cases hm : missing g with
  | some y =>
    obtain ⟨x, hx, e⟩ := List.exists_of_findSome?_eq_some hm
    have hy := (nd_ok hg (mem_KK.mp hx)).2 y (List.mem_of_find?_eq_some e)
    refine Std.okD_tup (fun d hd => ?_) (by simp)
    simp only [List.mem_cons, List.not_mem_nil, or_false] at hd
    rcases hd with rfl | rfl
    · exact oD_str.trans (okS_w "name" (by simp))
    · exact Std.okD_tup (fun d hd => by rw [List.mem_singleton.mp hd]; exact oD_str.trans (okS_NMZ _ hy)) (by simp)
  | none =>
    have hf := full_of hm
    cases hr : rings g with
    | some r =>
      obtain ⟨x, hx, e⟩ := List.exists_of_findSome?_eq_some hr
      have hxk := mem_KK.mp hx
      obtain ⟨h1, h2⟩ := bfs_some hf hg hxk 20 [[x]] [] ⟨.nil, fun _ h => (nomatch h), fun h => (nomatch h), fun w hw => by rw [List.mem_singleton.mp hw]; exact ⟨by simp, fun y hy => by rw [List.mem_singleton.mp hy]; exact hxk, by simp⟩, by simp⟩ e
      refine Std.okD_tup (fun d hd => ?_) (by simp)
      simp only [List.mem_cons, List.not_mem_nil, or_false] at hd
      rcases hd with rfl | rfl
      · exact oD_str.trans (okS_w "wrong" (by simp))
      · exact okD_nms (fun y hy => hg.2.2.1 y (h1 y hy)) (by omega)
    | none =>
      obtain ⟨h1, h2⟩ := ord_mem (g := g) g.length [] fun _ h => (nomatch h)
      refine Std.okD_tup (fun d hd => ?_) (by simp)
      simp only [List.mem_cons, List.not_mem_nil, or_false] at hd
      rcases hd with rfl | rfl
      · exact oD_str.trans (okS_w "told" (by simp))
      · exact okD_nms (fun y hy => hg.2.2.1 y (h1 y hy)) (by have := hg.1; simp at h2; omega)
def dueL (us : List Unt) : List PyData := [outD (gOf us), .list (us.map fun u => .list u.uses), .list (us.map fun u => .list (nmsD u.need)), .list (usD us)]
theorem okD_up {k : Nat} : ∀ {d : PyData}, Std.okD k d = true → Std.okD k d = true := fun h => h
def lb : List MS := match fo_law_7 with
  | .forS _ _ _ b => b
  | _ => []
section
variable {n : Nat} {us : List Unt} (h : okUs us)
include h
theorem l3 {a0 a1 a2 a3 a6 a7 a9 : Option O} {b5 : Option O} : evE (cxAt rs fuelW (n + 7)) lc_law_3 [a0, a1, a2, a3, some (.val (.list (usD us))), b5, a6, a7, none, a9] = .ok (.vl (.lst (us.map fun u => .list u.uses))) [a0, a1, a2, a3, some (.val (.list (usD us))), b5, a6, a7, none, a9] := by
  have e := lc_map (t := .name 8) (cond := evC (cxAt rs fuelW (n + 7)) none (evE (cxAt rs fuelW (n + 7)) (.call "_law_uses_of" [(.var 8)]))) (ρ := [a0, a1, a2, a3, some (.val (.list (usD us))), b5, a6, a7, none, a9]) (l := us) (ds := usD us) (e := Unt.D) (g := fun u => some (.list u.uses)) rfl rfl rfl (by rw [sizeLine_eq]; have := h.1; omega) fun u hu => by
    have en := luses_run (n := n + 1) (h.2.2 u hu)
    simp [E_lcTurn_1, en]
  rw [Std.fmap_some] at e
  exact (Std.evI_val (x := .pl 4) rfl rfl rfl).trans e
theorem l4 {a0 a1 a2 a3 a6 a7 a9 : Option O} {b5 : Option O} : evE (cxAt rs fuelW (n + 7)) lc_law_4 [a0, a1, a2, a3, some (.val (.list (usD us))), b5, a6, a7, none, a9] = .ok (.vl (.lst (us.map fun u => .list (nmsD u.need)))) [a0, a1, a2, a3, some (.val (.list (usD us))), b5, a6, a7, none, a9] := by
  have e := lc_map (t := .name 8) (cond := evC (cxAt rs fuelW (n + 7)) none (evE (cxAt rs fuelW (n + 7)) (.call "_law_needs" [(.var 8)]))) (ρ := [a0, a1, a2, a3, some (.val (.list (usD us))), b5, a6, a7, none, a9]) (l := us) (ds := usD us) (e := Unt.D) (g := fun u => some (.list (nmsD u.need))) rfl rfl rfl (by rw [sizeLine_eq]; have := h.1; omega) fun u hu => by
    have en := lneeds_run (n := n) (h.2.2 u hu)
    simp [E_lcTurn_1, en]
    rfl
  rw [Std.fmap_some] at e
  exact (Std.evI_val (x := .pl 4) rfl rfl rfl).trans e
theorem l5 {a0 a1 a2 a3 a4 a6 a9 : Option O} {b5 : Option O} : evE (cxAt rs fuelW (n + 7)) lc_law_5 [a0, a1, a2, a3, a4, b5, a6, some (.val (.list (usD us))), none, a9] = .ok (.vl (.lst (us.map fun u => .list u.uses))) [a0, a1, a2, a3, a4, b5, a6, some (.val (.list (usD us))), none, a9] := by
  have e := lc_map (t := .name 8) (cond := evC (cxAt rs fuelW (n + 7)) none (evE (cxAt rs fuelW (n + 7)) (.call "uses_of" [(.var 8)]))) (ρ := [a0, a1, a2, a3, a4, b5, a6, some (.val (.list (usD us))), none, a9]) (l := us) (ds := usD us) (e := Unt.D) (g := fun u => some (.list u.uses)) rfl rfl rfl (by rw [sizeLine_eq]; have := h.1; omega) fun u hu => by
    have en := uses_run (n := n + 1) (h.2.2 u hu)
    simp [E_lcTurn_1, en]
  rw [Std.fmap_some] at e
  exact (Std.evI_val (x := .pl 7) rfl rfl rfl).trans e
theorem l6 {a0 a1 a2 a3 a4 a6 a9 : Option O} {b5 : Option O} : evE (cxAt rs fuelW (n + 7)) lc_law_6 [a0, a1, a2, a3, a4, b5, a6, some (.val (.list (usD us))), none, a9] = .ok (.vl (.lst (us.map fun u => .list (nmsD u.need)))) [a0, a1, a2, a3, a4, b5, a6, some (.val (.list (usD us))), none, a9] := by
  have e := lc_map (t := .name 8) (cond := evC (cxAt rs fuelW (n + 7)) none (evE (cxAt rs fuelW (n + 7)) (.call "needs_of" [(.var 8)]))) (ρ := [a0, a1, a2, a3, a4, b5, a6, some (.val (.list (usD us))), none, a9]) (l := us) (ds := usD us) (e := Unt.D) (g := fun u => some (.list (nmsD u.need))) rfl rfl rfl (by rw [sizeLine_eq]; have := h.1; omega) fun u hu => by
    have en := needs_run (n := n) (h.2.2 u hu)
    simp [E_lcTurn_1, en]
    rfl
  rw [Std.fmap_some] at e
  exact (Std.evI_val (x := .pl 7) rfl rfl rfl).trans e
theorem same_due : (cxAt rs fuelW (n + 20)).call "_law_same" [.lst (dueL us), .lst (dueL us)] = .ok (.val (.bool true)) [.lst (dueL us), .lst (dueL us)] := by
  refine Std.law_same_seq (cx := cxAt rs fuelW) c_same (n := n + 19) (ds := dueL us) (.inr rfl) (.inr rfl) (by simp [dueL]) (fun d hd => ?_)
  have hl := h.1
  simp only [dueL, List.mem_cons, List.not_mem_nil, or_false] at hd
  rcases hd with rfl | rfl | rfl | rfl
  · exact Std.law_same c_same 3 (n := n + 15) (okD_out (okG_gOf h))
  · exact Std.law_same c_same 9 (n := n + 9) (Std.okD_lst (fun d hd => by
      obtain ⟨u, hu, rfl⟩ := List.mem_map.mp hd
      exact okD_uses (h.2.2 u hu)) (by rw [List.length_map]; omega))
  · exact Std.law_same c_same 2 (n := n + 16) (Std.okD_lst (fun d hd => by
      obtain ⟨u, hu, rfl⟩ := List.mem_map.mp hd
      exact okD_nms (need_nm (h.2.2 u hu)) (by have := need_len (h.2.2 u hu); omega)) (by rw [List.length_map]; omega))
  · exact Std.law_same c_same 10 (n := n + 8) (Std.okD_lst (fun d hd => by
      obtain ⟨u, hu, rfl⟩ := List.mem_map.mp hd
      exact okD_unt (h.2.2 u hu)) (by rw [usD_len]; omega))
end
end K44

set_option Elab.async false
set_option linter.all false
set_option maxRecDepth 100000
set_option maxHeartbeats 16000000
/-! the law -/
namespace K44
open PySem PySem.Spec L2 SW
open PyProof.Rows hiding St
def Fr (ρ : Rho) : Prop := ∃ (ds : List D) (a0 a2 a3 a4 : Option O) (b5 : Option PyData) (a6 a7 a9 : Option O), Std.DW ds ∧ ρ = [a0, some (.lst ds), a2, a3, a4, b5.map O.val, a6, a7, none, a9]
theorem cut_any {α : Type} (l : List α) (i : Nat) : cutL l none (some (i : Int)) = l.take i := by
  rcases Nat.le_total i l.length with h | h
  · exact cutL_take l i h
  · rw [List.take_of_length_le h]
    have e : HT.sIx l.length l.length (some (i : Int)) = l.length := by
      unfold HT.sIx
      dsimp only
      rw [if_neg (by omega)]
      simp
      omega
    unfold cutL
    rw [e]
    simp [HT.sIx]
theorem N7_ok : ∀ x ∈ N7, x ∈ NMZ := by decide +kernel
theorem N7_nd : N7.Nodup := by decide +kernel
theorem turn {n : Nat} {ρ : Rho} (h : Fr ρ) : Post (evSs (cxAt rs fuelW (n + 20)) 1 lb ρ) Fr noR noE := by
  obtain ⟨ds, a0, a2, a3, a4, b5, a6, a7, a9, hd, rfl⟩ := h
  obtain ⟨d1, v, e1, w1, v1, v2⟩ := draw (n := n + 19) (limit := 8) hd (by decide) (by decide)
  obtain ⟨j, rfl⟩ : ∃ j : Nat, v = j := ⟨v.toNat, by omega⟩
  have ec : cutL [PyData.str "A", .str "B", .str "C2", .str "D", .str "Ee", .str "F", .str "G"] none (some (j : Int)) = nmsD (N7.take j) := (cut_any _ j).trans (by unfold nmsD; rw [List.map_take]; rfl)
  have s1 : evS (cxAt rs fuelW (n + 20)) 1 (.asg (.name 3) (.slc (.lstE [(.lit (.str "A")), (.lit (.str "B")), (.lit (.str "C2")), (.lit (.str "D")), (.lit (.str "Ee")), (.lit (.str "F")), (.lit (.str "G"))]) none (some (.call "_law_draw" [(.var 1), (.lit (.int 8))])))) [a0, some (.lst ds), a2, a3, a4, b5.map O.val, a6, a7, none, a9] = .nx [a0, some (.lst d1), a2, some (.lst (nmsD (N7.take j))), a4, b5.map O.val, a6, a7, none, a9] := by
    simp [e1, ec]
  have hm : ∀ x ∈ N7.take j, x ∈ NMZ := fun x hx => N7_ok x (List.mem_of_mem_take hx)
  have hnd : (N7.take j).Nodup := (List.take_sublist j N7).nodup N7_nd
  have hl : (N7.take j).length ≤ 7 := by rw [List.length_take]; simp; omega
  generalize N7.take j = nms at s1 hm hnd hl
  refine post_step s1 (post_step (s := .asg (.name 4) (.lstE [])) (ρ' := lw a0 d1 a2 (.lst (nmsD nms)) [] (b5.map O.val) a6 a7 a9) rfl ?_)
  refine post_seq ((f1_loop (n := n + 18) (a0 := a0) (a2 := a2) (a6 := a6) (a7 := a7) (a9 := a9) (b5 := b5) w1 hl hm).mono ?_ (fun _ _ h => h) fun _ h => h)
  rintro ρ ⟨d2, o3, us, b5, a6, w2, hu, hok, rfl⟩
  have hul : us.length ≤ 7 := by rw [← hu, List.length_map] at hl; exact hl
  have hok' : okUs us := ⟨hul, by rw [hu]; exact hnd, hok⟩
  obtain ⟨d3, us', rem, e2, w3, pm⟩ := pop_lc (n := n + 19) w2 (us := us) (by omega) (a0 := a0) (a2 := a2) (a6 := a6) (a7 := a7) (a9 := a9) (o3 := o3) (b5 := b5)
  have hok2 : okUs us' := ⟨by rw [pm.length_eq]; exact hul, (pm.map Unt.nm).nodup_iff.mpr hok'.2.1, fun u q => hok u (pm.mem_iff.mp q)⟩
  have s2 : evS (cxAt rs fuelW (n + 20)) 1 (.asg (.name 4) lc_law_2) (lw a0 d2 a2 o3 us (b5.map O.val) a6 a7 a9) = .nx (lw a0 d3 a2 o3 us' (b5.map O.val) a6 a7 a9) := by
    simp [e2]
  have ecp := Std.copy_lst (cx := cxAt rs fuelW) c_copy (k := 9) (n := n + 9) (ds := usD us') (fun d hd => by
    obtain ⟨u, hu, rfl⟩ := List.mem_map.mp hd
    exact okD_unt (hok2.2.2 u hu)) (by rw [usD_len]; have := hok2.1; omega)
  have s3 : evS (cxAt rs fuelW (n + 20)) 1 (.asg (.name 7) (.call "_law_copy" [(.var 4)])) (lw a0 d3 a2 o3 us' (b5.map O.val) a6 a7 a9) = .nx [a0, some (.lst d3), a2, some o3, some (.val (.list (usD us'))), b5.map O.val, a6, some (.lst (usD us')), none, a9] := by
    simp [ecp]
  have eo := lordered_run hok2 (n := n + 12) (o0 := .val (.list (usD us'))) (.inr rfl)
  have e3 := l3 hok2 (n := n + 13) (a0 := a0) (a1 := some (.lst d3)) (a2 := a2) (a3 := some o3) (a6 := a6) (a7 := some (.lst (usD us'))) (a9 := a9) (b5 := b5.map O.val)
  have e4 := l4 hok2 (n := n + 13) (a0 := a0) (a1 := some (.lst d3)) (a2 := a2) (a3 := some o3) (a6 := a6) (a7 := some (.lst (usD us'))) (a9 := a9) (b5 := b5.map O.val)
  have s4 : evS (cxAt rs fuelW (n + 20)) 1 (.asg (.name 9) (.lstE [(.call "_law_ordered" [(.var 4)]), lc_law_3, lc_law_4, (.var 4)])) [a0, some (.lst d3), a2, some o3, some (.val (.list (usD us'))), b5.map O.val, a6, some (.lst (usD us')), none, a9] = .nx [a0, some (.lst d3), a2, some o3, some (.val (.list (usD us'))), b5.map O.val, a6, some (.lst (usD us')), none, some (.lst (dueL us'))] := by
    simp [eo, e3, e4, dueL]
  have et := told_run hok2 (n := n + 11) (o := .lst (usD us')) (.inl rfl)
  have e5 := l5 hok2 (n := n + 13) (a0 := a0) (a1 := some (.lst d3)) (a2 := a2) (a3 := some o3) (a4 := some (.val (.list (usD us')))) (a6 := a6) (a9 := some (.lst (dueL us'))) (b5 := b5.map O.val)
  have e6 := l6 hok2 (n := n + 13) (a0 := a0) (a1 := some (.lst d3)) (a2 := a2) (a3 := some o3) (a4 := some (.val (.list (usD us')))) (a6 := a6) (a9 := some (.lst (dueL us'))) (b5 := b5.map O.val)
  have es := same_due hok2 (n := n)
  have s5 : evS (cxAt rs fuelW (n + 20)) 1 (.ifS (.notE (.call "_law_same" [(.lstE [(.call "_law_told" [(.var 7)]), lc_law_5, lc_law_6, (.var 7)]), (.var 9)])) [.ret (.lit (.bool false))] []) [a0, some (.lst d3), a2, some o3, some (.val (.list (usD us'))), b5.map O.val, a6, some (.lst (usD us')), none, some (.lst (dueL us'))] = .nx [a0, some (.lst d3), a2, some o3, some (.val (.list (usD us'))), b5.map O.val, a6, some (.val (.list (usD us'))), none, some (.lst (dueL us'))] := by
    unfold dueL at es e5 e6 ⊢
    simp [et, e5, e6, es]
  exact post_step s2 (post_step s3 (post_step s4 (post_step s5 (post_nil ⟨d3, _, _, _, _, b5, _, _, _, w3, rfl⟩))))
theorem turns {n : Nat} {ρ : Rho} (h : Fr ρ) : Post (evS (cxAt rs fuelW (n + 20)) 1 fo_law_7 ρ) Fr noR noE := by
  obtain ⟨ds, a0, a2, a3, a4, b5, a6, a7, a9, hd, rfl⟩ := h
  refine post_rng (ds := [.int ((5 : Nat) : Int)]) (ρ' := [a0, some (.lst ds), a2, a3, a4, b5.map O.val, a6, a7, none, a9]) (by simp) (rng_nat (by omega)) (foR_inv 5 (fun i ρ => Fr ρ) (R := noR) (E := noE) ?_ ⟨ds, _, _, _, _, b5, _, _, _, hd, rfl⟩)
  rintro i hi ρ ⟨ds, a0, a2, a3, a4, b5, a6, a7, a9, hd, rfl⟩
  exact ⟨[a0, some (.lst ds), some (.val (.int (i : Int))), a3, a4, b5.map O.val, a6, a7, none, a9], rfl, turn (n := n) ⟨ds, _, _, _, _, b5, _, _, _, hd, rfl⟩⟩
theorem plain (ns : List Int) (h : ns.length ≤ 63) : ∃ ρ', evSs (cxAt rs fuelW 60) r_law.fn.np r_law.fn.body (lawRho r_law.N.length 1 ns) = .rt (.val (.bool true)) ρ' := by
  have fr : Fr (lawRho r_law.N.length 1 ns) := ⟨[.list (ns.map .int), .int 0, .int 0, .int 1], none, none, none, none, none, none, none, none, ⟨ns, 0, 0, 1, rfl, by decide, by decide, by decide⟩, rfl⟩
  have t := turns (n := 40) fr
  cases hs : evS (cxAt rs fuelW (40 + 20)) 1 fo_law_7 (lawRho r_law.N.length 1 ns) with
  | nx ρ1 => exact ⟨ρ1, (Std.seq_nx hs).trans (Std.seq_rt rfl)⟩
  | _ => rw [hs] at t; exact t.out.elim
end K44

set_option Elab.async false
set_option linter.all false
set_option maxRecDepth 100000
set_option maxHeartbeats 2000000
/-! what the head tells of the exceptions' classes -/
namespace SW
open PySem PySem.Spec L2
open PyProof.Rows hiding St
/-- a class with its own __init__ -/
structure XR where
  cn : Str
  qual : Str
  params : Arguments
  body : List Stmt
  scope : Scope
def clsRow : Stmt → XR
  | .ClassDef (name := n) (body := .FunctionDef (args := a) (body := b) (scope := sc) .. :: _) .. => ⟨n, n ++ (".__init__" : Str), a, b, sc⟩
  | _ => ⟨Str.empty, Str.empty, ⟨[], [], none, [], [], none, []⟩, [], ⟨.function, [], false, false, []⟩⟩
/-! ### the texts -/
def isSub (wd : Str) : List Stmt → Option (Nat × List Pos)
  | [.Expr (.Call (.Attribute (.Call (.Name s p0) [] [] p1) i p2) [.Name a p3, .Constant (.str w) jw p4] [] p5) p6] =>
    if s = ("super" : Str) ∧ i = ("__init__" : Str) ∧ a = ("at" : Str) ∧ w = wd ∧ p5 = p6 ∧ (p2.endLine == p5.line) = true then some (jw, [p0, p0, p0, p1, p2, p3, p4, p5]) else none
  | _ => none
def isBase : List Stmt → Option (List Pos)
  | [.Expr (.Call (.Attribute (.Call (.Name s p0) [] [] p1) i p2) [.Name a p3] [] p4) p5, .Assign [.Attribute (.Name s1 p6) a1 p7] (.Name b1 p8) p9, .Assign [.Attribute (.Name s2 p10) a2 p11] (.Name b2 p12) p13] =>
    if s = ("super" : Str) ∧ i = ("__init__" : Str) ∧ a = ("at" : Str) ∧ s1 = ("self" : Str) ∧ a1 = ("at" : Str) ∧ b1 = ("at" : Str) ∧ s2 = ("self" : Str) ∧ a2 = ("name" : Str) ∧ b2 = ("name" : Str) ∧ (p2.endLine == p4.line) = true then
      some [p0, p0, p0, p1, p2, p3, p4, p5, p6, p7, p8, p9, p10, p11, p12, p13] else none
  | _ => none
theorem isSub_eq {wd : Str} {b : List Stmt} {r : Nat × List Pos} (h : isSub wd b = some r) : ∃ q : Fin 8 → Pos, b = Ex.subBody wd r.1 q ∧ ((q 4).endLine == (q 7).line) = true := by
  unfold isSub at h
  split at h
  case h_2 => cases h
  rename_i s p0 p1 i p2 a p3 w jw p4 p5 p6
  obtain ⟨⟨rfl, rfl, rfl, rfl, rfl, e⟩, e2⟩ := Option.ite_none_right_eq_some.mp h
  cases e2
  exact ⟨fun i => [p0, p0, p0, p1, p2, p3, p4, p5].getD i.val default, rfl, e⟩
theorem isBase_eq {b : List Stmt} {r : List Pos} (h : isBase b = some r) : ∃ q : Fin 16 → Pos, b = Ex.baseBody q ∧ ((q 4).endLine == (q 6).line) = true := by
  unfold isBase at h
  split at h
  case h_2 => cases h
  rename_i s p0 p1 i p2 a p3 p4 p5 s1 p6 a1 p7 b1 p8 p9 s2 p10 a2 p11 b2 p12 p13
  obtain ⟨⟨rfl, rfl, rfl, rfl, rfl, rfl, rfl, rfl, rfl, e⟩, e2⟩ := Option.ite_none_right_eq_some.mp h
  exact ⟨fun i => [p0, p0, p0, p1, p2, p3, p4, p5, p6, p7, p8, p9, p10, p11, p12, p13].getD i.val default, rfl, e⟩
def scB (sc : Scope) (ps : List Str) : Bool :=
  decide (sc.names.lookup ("super" : Str) = some .globalImplicit) && decide (sc.names.lookup ("__class__" : Str) = some .free) && (ps.all fun x => decide (sc.names.lookup x = some .local)) &&
    (sc.names.all fun x => match x.2 with | .cell => false | _ => true) && !sc.isCoroutine && !sc.isGenerator && (match sc.kind with | .function => true | _ => false)
/-- a sub's row, the base's row: seen in the text -/
structure SubOk (r : XR) : Prop where
  body : (isSub r.cn r.body).isSome = true
  sc : scB r.scope ["self", "at"] = true
  par : ∃ ar : Arg, (r.params.posonlyargs ++ r.params.args).head? = some ar ∧ ar.arg = ("self" : Str)
  bind : ∀ (name : Str) (kV doc pm : Value) (an : Option Addr) (cdv ct : Value) (cc : Addr) (us : List Value), us.length = 2 → bindArgs (PySem.W.ksFn name r.qual r.params r.body r.scope .none kV doc pm an cdv ct cc) ⟨us, []⟩ = pure ((["self", "at"] : List Str).zip us)
structure BaseOk (r : XR) : Prop where
  body : (isBase r.body).isSome = true
  sc : scB r.scope ["self", "at", "name"] = true
  par : ∃ ar : Arg, (r.params.posonlyargs ++ r.params.args).head? = some ar ∧ ar.arg = ("self" : Str)
  bind : ∀ (T : Addr) (name : Str) (kV doc pm : Value) (an : Option Addr) (cdv ct : Value) (cc : Addr) (us its : List Value), us.length = 3 → its.length = 1 →
    ∃ k, bindArgs (PySem.W.ksFn name r.qual r.params r.body r.scope (.ref T) kV doc pm an cdv ct cc) ⟨us, []⟩ = seqItems? (.ref T) >>= k ∧ k (some its.toArray) = pure ((["self", "at", "name"] : List Str).zip us)
/-! ### in the heap -/
section
variable (K : PySem.W.Frag) (file : Str)
def iniB (D f : Addr) (qual : Str) : Bool := match K.lookup f with
  | some ⟨_, _, .func fd, _⟩ => PySem.W.codeIn K fd.code qual && ((match fd.code with
      | .ref cda => (match K.lookup cda with
        | some ⟨_, _, .fields vs, _⟩ => (match vs.toList with
          | _ :: _ :: .str f' _ :: _ => decide (f' = file)
          | _ => false)
        | _ => false)
      | _ => false) && (match fd.closure with
      | [(_, cc)] => (match K.lookup cc with
        | some ⟨_, _, .cell (some (.ref D')), _⟩ => decide (D' = D)
        | _ => false)
      | _ => false))
  | _ => false
def dfl0B (f : Addr) : Bool := match K.lookup f with
  | some ⟨_, _, .func fd, _⟩ => (match fd.defaults with
    | .none => true
    | _ => false)
  | _ => false
def dfl1B (f : Addr) : Bool := match K.lookup f with
  | some ⟨_, _, .func fd, _⟩ => (match fd.defaults with
    | .ref T => (match K.lookup T with
      | some ⟨_, _, .seq its _, _⟩ => decide (its.toList.length = 1)
      | _ => false)
    | _ => false)
  | _ => false
def oexB (C : Addr) : Bool := (match K.lookup C with
  | some ⟨.type "type", _, .cls cd, sl⟩ => (match cd.mro, sl.toList with
    | .ref C' :: bm, [_, _, _, _, some (.builtin n), _] => decide (C' = C) && decide (n = "ValueError.__new__") && cd.hasDict && !cd.hasDel && PySem.HandSPX.refsVE bm
    | _, _ => false)
  | _ => false) && (He.eqO (PySem.W.findIn K (.ref C) "__setattr__") (some (some (.builtin "object.__setattr__"))) && (decide (PySem.W.subIn K (.ref C) (.type "BaseException") = some true) && (decide (PySem.W.typeIn K (.ref C) = some (.type "type")) && PySem.W.keepIn K (.ref C))))
def mkB (S C : Addr) : Bool := oexB K C && (decide (PySem.W.mroIn K C (.ref S) = some true) && (decide (PySem.W.subIn K (.ref C) (.type "ValueError") = some true) && (He.eqO (PySem.W.nsIn K cStatics "thirdparty.any") (some none) &&
  (He.eqO (PySem.W.ks_superIn K C S "__init__") (some (some (.builtin "ValueError.__init__"))) && (He.eqO (PySem.W.findIn K (.ref C) "at") (some none) && He.eqO (PySem.W.findIn K (.ref C) "name") (some none))))))
abbrev ini (x : Str) : Addr := He.ma K (He.ga K x) "__init__"
def subB (S : Str) (r : XR) : Bool := mkB K (He.ga K S) (He.ga K r.cn) && (xfB K (He.ga K r.cn) && (iniB K file (He.ga K r.cn) (ini K r.cn) r.qual && (dfl0B K (ini K r.cn) && (decide (PySem.W.mroIn K (He.ga K r.cn) (.ref (He.ga K r.cn)) = some true) &&
  (He.eqO (PySem.W.ks_superIn K (He.ga K r.cn) (He.ga K r.cn) "__init__") (some (some (.ref (ini K S)))) && (He.eqO (PySem.W.findIn K (.ref (He.ga K r.cn)) "__init__") (some (some (.ref (ini K r.cn)))) && (decide (PySem.W.typeIn K (.ref (ini K r.cn)) = some (.type "function")) && isiB K (He.ga K r.cn))))))))
def gloB (x : Str) : Bool := He.eqO (PySem.W.nsIn K mainGlobals x) (some (some (.ref (He.ga K x))))
def xB (S : XR) (subs : List XR) : Bool := ((S :: subs).all fun r => gloB K r.cn) && ((subs.all fun r => subB K file S.cn r) && (iniB K file (He.ga K S.cn) (ini K S.cn) S.qual && (dfl1B K (ini K S.cn) && (decide (PySem.W.typeIn K (.ref (ini K S.cn)) = some (.type "function")) &&
  ((PySem.W.clsIn K (He.ga K S.cn)).isSome && (He.eqO (PySem.W.nsIn K mainGlobals "super") (some none) &&
    (subs.all fun r => (S :: subs).all fun h => decide (PySem.W.exmOne K (.ref (He.ga K r.cn)) (.ref (He.ga K h.cn)) = some (catches h.cn r.cn)))))))))
abbrev FnX : Type := Option (Str × Arguments × FuncBody × Scope × Addr × List Str × Addr)
def fnX (f : Addr) : FnX := match K.lookup f with
  | some ⟨_, _, .func fd, _⟩ => some (fd.qualname, fd.params, fd.body, fd.scope, fd.globals, fd.closure.map (·.1), fd.builtins)
  | _ => none
end
def XR.val (r : XR) : FnX := some (r.qual, r.params, .stmts r.body, r.scope, mainGlobals, ["__class__"], builtinsNs)
/-! ### the Hook -/
abbrev AlX : Type := He.AlD × (Bool × List FnX)
def obsX (fa : List He.Fa) (fn : List He.DefD) (file : Str) (S : XR) (subs : List XR) (K : PySem.W.Frag) : AlX := (He.obsD fa fn K, (xB K file S subs, (S :: subs).map fun r => fnX K (ini K r.cn)))
def valX (fn : List He.DefD) (S : XR) (subs : List XR) : AlX := (He.valD fn, (true, (S :: subs).map XR.val))
def SaysX (fa : List He.Fa) (fn : List He.DefD) (file : Str) (S : XR) (subs : List XR) (K : PySem.W.Frag) : Prop := obsX fa fn file S subs K = valX fn S subs
def obsXG (n : Nat) (fa : List He.Fa) (fn : List He.DefD) (file : Str) (S : XR) (subs : List XR) (g : Addr → Option Obj) : AlX := obsX fa fn file S subs (He.frG g (He.asD g n ++ [cStatics]))
def hookX (n : Nat) (fa : List He.Fa) (fn : List He.DefD) (file : Str) (S : XR) (subs : List XR) : PySem.W.Hook where
  α := AlX
  obs := fun s => obsXG n fa fn file S subs s.heap.get?
  val := fun _ => valX fn S subs
  says := fun _ h => ∃ K : PySem.W.Frag, K.In h ∧ SaysX fa fn file S subs K
  of := fun _ _ e => ⟨_, He.frG_in, e⟩
  keeps := fun _ _ _ ⟨K, hK, c⟩ k => ⟨K, PySem.W.Frag.In.keeps hK k, c⟩
theorem obsXG_eq {n : Nat} {fa : List He.Fa} {fn : List He.DefD} {file : Str} {S : XR} {subs : List XR} {g : Addr → Option Obj} {s : Shared} (h : ∀ a, g a = s.heap.get? a) : obsXG n fa fn file S subs g = (hookX n fa fn file S subs).obs s := by
  have e : g = s.heap.get? := funext h
  rw [e] <;> rfl
end SW

set_option Elab.async false
set_option linter.all false
set_option maxRecDepth 100000
set_option maxHeartbeats 2000000
namespace SW
open PySem PySem.Spec L2
open PyProof.Rows hiding St
section
variable {prog : Program} {w : World} {K : PySem.W.Frag} {file : Str}
theorem sc_of {sc : Scope} {ps : List Str} (h : scB sc ps = true) : sc.names.lookup ("super" : Str) = some .globalImplicit ∧ sc.names.lookup ("__class__" : Str) = some .free ∧ (∀ x ∈ ps, sc.names.lookup x = some .local) ∧ (∀ x ∈ sc.names, x.2 ≠ .cell) ∧ sc.isCoroutine = false ∧ sc.isGenerator = false ∧ sc.kind = .function := by
  unfold scB at h
  simp only [Bool.and_eq_true, decide_eq_true_eq, Bool.not_eq_true'] at h
  obtain ⟨⟨⟨⟨⟨⟨h1, h2⟩, h3⟩, h4⟩, h5⟩, h6⟩, h7⟩ := h
  refine ⟨h1, h2, fun x hx => of_decide_eq_true (List.all_eq_true.mp h3 x hx), fun x hx e => ?_, h5, h6, ?_⟩
  · have := List.all_eq_true.mp h4 x hx
    rw [e] at this
    cases this
  · split at h7
    · assumption
    · cases h7
theorem ini_of {r : XR} {ps : List Str} {D f : Addr} (h : iniB K file D f r.qual = true) (e : fnX K f = r.val) (hsc : scB r.scope ps = true) (hp1 : ("self" : Str) ∈ ps) (hp2 : ("at" : Str) ∈ ps) (par : ∃ ar : Arg, (r.params.posonlyargs ++ r.params.args).head? = some ar ∧ ar.arg = ("self" : Str)) (hc : (PySem.W.clsIn K D).isSome = true)
    (hfile : ((prog.main.file : Str) == file) = true) (top : (prog.main.scope.names.lookup ("super" : Str)).isSome = false) :
    ∃ cc cda name dV kV doc pm an ct oc od osl, K.lookup f = some ⟨oc, od, .func (PySem.W.ksFn name r.qual r.params r.body r.scope dV kV doc pm an (.ref cda) ct cc), osl⟩ ∧ Ex.Ini prog K D f cc cda r.qual r.scope r.body (PySem.W.ksFn name r.qual r.params r.body r.scope dV kV doc pm an (.ref cda) ct cc) := by
  obtain ⟨k1, k2, k3, k4, k5, k6, k7⟩ := sc_of hsc
  unfold iniB at h
  unfold fnX at e
  cases hl : K.lookup f with
  | none => rw [hl] at h; cases h
  | some o =>
    obtain ⟨oc, od, dt, osl⟩ := o
    rw [hl] at h e
    cases dt with
    | func fd =>
      obtain ⟨n1, n2, n3, n4, n5, n6, n7, n8, n9, n10, n11, n12, n13, n14, n15⟩ := fd
      simp only [XR.val, Option.some.injEq, Prod.mk.injEq] at e
      obtain ⟨e1, e2, e3, e4, e5, e6, e7⟩ := e
      subst e1 e2 e3 e4 e5 e7
      dsimp only at h
      rw [Bool.and_eq_true, Bool.and_eq_true] at h
      obtain ⟨h1, h2, h3⟩ := h
      cases n13 with
      | ref cda =>
        dsimp only at h2
        match n7, h3, e6 with
        | [(xn, cc)], h3, e6 =>
          have ex : xn = ("__class__" : Str) := by simpa using e6
          subst ex
          dsimp only at h3
          refine ⟨cc, cda, n1, n8, n9, n10, n11, n12, n14, oc, od, osl, rfl, ⟨_, _, _, _, _, _, _, _, rfl⟩, ⟨oc, od, osl, hl⟩, h1, ?_, ?_, ?_, par, k1, k2, k3 _ hp1, k3 _ hp2, k4, k5, k6, k7, top⟩
          · cases hk : K.lookup cda with
            | none => rw [hk] at h2; cases h2
            | some oc2 =>
              obtain ⟨c1, c2, c3, c4⟩ := oc2
              rw [hk] at h2
              cases c3 with
              | fields vs =>
                dsimp only at h2
                split at h2
                · rename_i a b f' tk rest hv
                  have hf' : f' = file := of_decide_eq_true h2
                  refine ⟨c1, c2, vs, c4, f', tk, rfl, ?_, by rw [hf']; exact hfile⟩
                  rw [← Array.getElem?_toList, hv]
                  rfl
                · cases h2
              | _ => cases h2
          · cases hk : K.lookup cc with
            | none => rw [hk] at h3; cases h3
            | some oc2 =>
              obtain ⟨c1, c2, c3, c4⟩ := oc2
              rw [hk] at h3
              try dsimp only at h3
              split at h3
              · rename_i D' _ heq
                have hD : D' = D := of_decide_eq_true h3
                cases heq
                subst hD
                exact ⟨c1, c2, c4, rfl⟩
              · cases h3
          · exact Option.isSome_iff_exists.mp hc
      | _ => cases h2
    | _ => cases h
theorem oex_of {C : Addr} (h : oexB K C = true) : OexC K C := by
  unfold oexB at h
  simp only [Bool.and_eq_true, decide_eq_true_eq] at h
  obtain ⟨h1, h2, h3, h4, h5⟩ := h
  refine ⟨?_, He.eqO_ok h2, h3, h4, h5⟩
  split at h1
  · rename_i od cd sl hl
    split at h1
    · rename_i C' bm a0 a1 a2 a3 n a5 hm hs
      simp only [Bool.and_eq_true, decide_eq_true_eq, Bool.not_eq_true'] at h1
      obtain ⟨⟨⟨⟨rfl, rfl⟩, hd⟩, hdel⟩, hv⟩ := h1
      obtain ⟨nm, bs, mro, ns, qn, hd', sn, sb, ab, col, del⟩ := cd
      dsimp only at hm hd hdel
      subst hm hd hdel
      refine ⟨nm, qn, ns, bs, bm, sn, sb, ab, col, od, a0, a1, a2, a3, a5, ?_, hv⟩
      rw [hl]
      have : sl = #[a0, a1, a2, a3, some (.builtin "ValueError.__new__"), a5] := by
        rw [← hs]
      rw [this]
    · cases h1
  · cases h1
theorem mk_of_B {S C : Addr} (h : mkB K S C = true) : Ex.Mk K C S := by
  unfold mkB at h
  simp only [Bool.and_eq_true, decide_eq_true_eq] at h
  obtain ⟨h1, h2, h3, h4, h5, h6, h7⟩ := h
  exact ⟨oex_of h1, h2, h3, He.eqO_ok h4, He.eqO_ok h5, He.eqO_ok h6, He.eqO_ok h7⟩
theorem dfl0_of {f : Addr} {fd : FuncData} {oc : Value} {od : Option Addr} {osl : Array (Option Value)} (h : dfl0B K f = true) (hl : K.lookup f = some ⟨oc, od, .func fd, osl⟩) : fd.defaults = .none := by
  unfold dfl0B at h
  rw [hl] at h
  dsimp only at h
  split at h
  · assumption
  · cases h
theorem dfl1_of {f : Addr} {fd : FuncData} {oc : Value} {od : Option Addr} {osl : Array (Option Value)} (h : dfl1B K f = true) (hl : K.lookup f = some ⟨oc, od, .func fd, osl⟩) : ∃ T o its m, fd.defaults = .ref T ∧ K.lookup T = some o ∧ o.data = .seq its m ∧ its.toList.length = 1 := by
  unfold dfl1B at h
  rw [hl] at h
  dsimp only at h
  split at h
  · rename_i T hd
    split at h
    · rename_i a b its m sl hT
      exact ⟨T, _, its, m, hd, hT, rfl, of_decide_eq_true h⟩
    · cases h
  · cases h
theorem maker_of {S r : XR} (hr : SubOk r) (hS : BaseOk S) (hb : subB K file S.cn r = true) (er : fnX K (ini K r.cn) = r.val) (hbS : iniB K file (He.ga K S.cn) (ini K S.cn) S.qual = true) (eS : fnX K (ini K S.cn) = S.val) (hd1 : dfl1B K (ini K S.cn) = true) (hty : PySem.W.typeIn K (.ref (ini K S.cn)) = some (.type "function"))
    (hcS : (PySem.W.clsIn K (He.ga K S.cn)).isSome = true) (hfile : ((prog.main.file : Str) == file) = true) (top : (prog.main.scope.names.lookup ("super" : Str)).isSome = false) :
    L2.OexC K (He.ga K r.cn) ∧ L2.XfC K (He.ga K r.cn) ∧ PySem.W.findIn K (.ref (He.ga K r.cn)) "at" = some none ∧ PySem.W.findIn K (.ref (He.ga K r.cn)) "__init__" = some (some (.ref (ini K r.cn))) ∧ PySem.W.typeIn K (.ref (ini K r.cn)) = some (.type "function") ∧ Maker prog w K (He.ga K r.cn) (ini K r.cn) r.cn ∧ IsiC K (He.ga K r.cn) ∧ PySem.W.mroIn K (He.ga K r.cn) (.ref (He.ga K r.cn)) = some true := by
  unfold subB at hb
  simp only [Bool.and_eq_true, decide_eq_true_eq] at hb
  obtain ⟨b1, b2, b3, b4, b5, b6, b7, b8, b9⟩ := hb
  have M := mk_of_B b1
  have hcR : (PySem.W.clsIn K (He.ga K r.cn)).isSome = true := by
    obtain ⟨cd, hc, _⟩ := Ex.cls_of M
    rw [hc]
    rfl
  obtain ⟨x, hx⟩ := Option.isSome_iff_exists.mp hr.body
  obtain ⟨q, eb, hl1⟩ := isSub_eq hx
  obtain ⟨y, hy⟩ := Option.isSome_iff_exists.mp hS.body
  obtain ⟨q2, eb2, hl2⟩ := isBase_eq hy
  obtain ⟨cc, cda, name, dV, kV, doc, pm, an, ct, oc, od, osl, lk, I⟩ := ini_of (prog := prog) b3 er hr.sc (by simp) (by simp) hr.par hcR hfile top
  obtain ⟨cc2, cda2, name2, dV2, kV2, doc2, pm2, an2, ct2, oc2, od2, osl2, lk2, I2⟩ := ini_of (prog := prog) hbS eS hS.sc (by simp) (by simp) hS.par hcS hfile top
  have d0 := dfl0_of b4 lk
  obtain ⟨T, oT, its, m, dT, lT, dsq, hits⟩ := dfl1_of hd1 lk2
  cases d0
  cases dT
  have kname : S.scope.names.lookup ("name" : Str) = some .local := (sc_of hS.sc).2.2.1 _ (by simp)
  refine ⟨M.oex, xfB_ok b2, M.noat, He.eqO_ok b7, b8, ?_, isiB_ok b9, b5⟩
  have bind1 := hr.bind
  have bind2 := hS.bind
  rw [eb] at I bind1
  rw [eb2] at I2 bind2
  intro A R hp g d t os e t0 xv X hKe G hroom he k
  refine Ex.init_run (S := He.ga K S.cn) I hl1 I2 kname hl2 M (He.eqO_ok b6) b5 ?_ X hKe G hroom he (fun s Y => BindsTo.of_eq (bind1 name kV doc pm an (.ref cda) ct cc [.ref e, xv] rfl)) (fun s nm Y => ?_) k
  · have hty : (K.lookup (ini K S.cn)).map (·.cls) = some (.type "function") := hty
    cases hz : K.lookup (ini K S.cn) with
    | none => rw [hz] at hty; cases hty
    | some o => rw [hz] at hty; exact ⟨o, rfl, Option.some.inj hty⟩
  · obtain ⟨kk, e1, e2⟩ := bind2 T name2 kV2 doc2 pm2 an2 (.ref cda2) ct2 cc2 [.ref e, xv, nm] its.toList rfl hits
    refine BindsTo.of_looks fun M => ?_
    rw [e1]
    exact looks_items Y lT dsq (.of_pure (by simpa using e2))
theorem xc_of {fa : List He.Fa} {fn : List He.DefD} {S : XR} {subs : List XR} {h : Heap} {mg : Str → Option Value} (X : K.In h) (G : h.Ns mainGlobals mg) (c : SaysX fa fn file S subs K) (hS : BaseOk S) (hs : ∀ r ∈ subs, SubOk r) (hSn : S.cn = ("SealError" : Str))
    (hfile : ((prog.main.file : Str) == file) = true) (top : (prog.main.scope.names.lookup ("super" : Str)).isSome = false) : XcAll prog w K mg (subs.map (·.cn)) := by
  have c2 : xB K file S subs = true := congrArg (fun z : AlX => z.2.1) c
  have c3 : (S :: subs).map (fun r => fnX K (ini K r.cn)) = (S :: subs).map XR.val := congrArg (fun z : AlX => z.2.2) c
  have ev : ∀ r ∈ S :: subs, fnX K (ini K r.cn) = r.val := fun r hr => List.map_inj_left.mp c3 r hr
  unfold xB at c2
  simp only [Bool.and_eq_true, decide_eq_true_eq] at c2
  obtain ⟨g1, g2, g3, g4, g5, g6, g7, g8⟩ := c2
  have glo : ∀ r ∈ S :: subs, mg r.cn = some (.ref (He.ga K r.cn)) := fun r hr => PySem.W.mg_of X G (He.eqO_ok (List.all_eq_true.mp g1 r hr))
  have mk : ∀ r ∈ subs, XcD prog w K mg r.cn (He.ga K r.cn) := fun r hr => by
    obtain ⟨m1, m2, m3, m4, m5, m6, m7, m8⟩ := maker_of (prog := prog) (w := w) (hs r hr) hS (List.all_eq_true.mp g2 r hr) (ev r (by simp [hr])) g3 (ev S (by simp)) g4 g5 g6 hfile top
    exact ⟨glo r (by simp [hr]), m1, ⟨_, m4, m5, m6⟩, m2, m3, m7, m8⟩
  refine ⟨fun Cn hCn => ?_, fun hn hh => ?_, fun _ => PySem.W.mg_none_of X G (He.eqO_ok g7)⟩
  · obtain ⟨r, hr, rfl⟩ := List.mem_map.mp hCn
    exact ⟨_, mk r hr⟩
  · have : ∃ r ∈ S :: subs, r.cn = hn := by
      rcases hh with hh | hh
      · obtain ⟨r, hr, rfl⟩ := List.mem_map.mp hh
        exact ⟨r, by simp [hr], rfl⟩
      · exact ⟨S, by simp, by rw [hSn, hh.1]⟩
    obtain ⟨r, hr, rfl⟩ := this
    refine ⟨_, glo r hr, fun Cn hCn C hC => ?_⟩
    obtain ⟨r2, hr2, rfl⟩ := List.mem_map.mp hCn
    rw [glo r2 (by simp [hr2])] at hC
    cases hC
    exact of_decide_eq_true (List.all_eq_true.mp (List.all_eq_true.mp g8 r2 hr2) r hr)
theorem SaysX.d {fa : List He.Fa} {fn : List He.DefD} {S : XR} {subs : List XR} (c : SaysX fa fn file S subs K) : He.SaysD fa fn K := congrArg (fun z : AlX => z.1) c
end
end SW

set_option Elab.async false
set_option linter.all false
set_option maxRecDepth 100000
set_option maxHeartbeats 0
namespace K44
open PySem PySem.Spec L2 SW
open PyProof.Rows hiding St
abbrev lev' : Nat := 60
theorem draws : DrawsOk nm r__law_draws := ⟨rfl, rfl, rfl, rfl, by kernel_rfl, by kernel_rfl, by kernel_rfl, by kernel_rfl, by decide, bd__law_draws⟩
theorem lawOk : ∃ rest, LawOk rs nm 100 r_law "draws" 1 rest := ⟨(defBody (at_ 25)).tail, by rfl, by rfl, by rfl, by rfl, by rfl, by kernel_rfl, by kernel_rfl, by kernel_rfl, by kernel_rfl, by kernel_rfl, by kernel_rfl, by kernel_rfl, bd_law⟩
/-! the head -/
abbrev xSealError : XR := clsRow (at_ 1)
abbrev xNameWrong : XR := clsRow (at_ 2)
abbrev xWrong : XR := clsRow (at_ 3)
abbrev file : Str := RR.prog.main.file
theorem okSealError : BaseOk xSealError := ⟨by kernel_rfl, by kernel_rfl, ⟨_, rfl, rfl⟩, fun T _ _ _ _ _ _ _ _ us its h1 h2 => by
  match us, its, h1, h2 with
  | [_, _, _], [_], _, _ => exact ⟨_, rfl, rfl⟩⟩
theorem okNameWrong : SubOk xNameWrong := ⟨by kernel_rfl, by kernel_rfl, ⟨_, rfl, rfl⟩, fun _ _ _ _ _ _ _ _ us h => by
  match us, h with
  | [_, _], _ => kernel_rfl⟩
theorem okWrong : SubOk xWrong := ⟨by kernel_rfl, by kernel_rfl, ⟨_, rfl, rfl⟩, fun _ _ _ _ _ _ _ _ us h => by
  match us, h with
  | [_, _], _ => kernel_rfl⟩
def rsL : RTbl := r_law :: rs
abbrev hk : PySem.W.Hook := hookX 4 (faOf rsL nm) (rsL.map defD) file xSealError [xNameWrong, xWrong]
def ob (s : PySem.W.SharedT) : AlX := obsXG 4 (faOf rsL nm) (rsL.map defD) file xSealError [xNameWrong, xWrong] (HandSHeadRun.getT s)
theorem ob_eq (s : PySem.W.SharedT) : ob s = hk.obs s.abs := obsXG_eq (HandSHeadRun.getT_eq s)
def loose : List Str := [("SealError" : Str), ("NameWrong" : Str), ("Wrong" : Str)] ++ rs.map (·.name)
theorem run (w : World) : HandSHeadRun.RunEq RR (PySem.W.view RR.prog [25]) hk ob 3000 loose w := by
  intro os
  kernel_rfl
theorem facts {P : Program} {w : World} {K : PySem.W.Frag} {h : Heap} {mg : Str → Option Value} {f : Addr} (X : K.In h) (G : h.Ns mainGlobals mg) (hfa : mg ("law" : Str) = some (.ref f)) (c : SaysX (faOf rsL nm) (rsL.map defD) file xSealError [xNameWrong, xWrong] K) (hP : P = RR.prog) :
    ∃ fd : FuncData, (∀ (s : Shared) (v : Value), BindsTo s fd ⟨[v], []⟩ [("script", v)]) ∧ ∀ base : Heap, K.In base → base.Ns mainGlobals mg → FnOk P w K mg base CX0 (lev' + 1) f fd ["script"] (spLaw K 63) := by
  subst hP
  have Hx : XcAll RR.prog w K mg nm.exc := xc_of X G c okSealError (fun r hr => by
    simp only [List.mem_cons, List.not_mem_nil, or_false] at hr
    rcases hr with rfl | rfl
    · exact okNameWrong
    · exact okWrong) rfl (by kernel_rfl) (by kernel_rfl)
  have Hd : HeadOk RR.prog w K mg rsL nm := head_of X G c.d (by decide) (by decide) Hx
  obtain ⟨fd, F, hm⟩ := Hd.fns r_law (List.mem_cons_self ..)
  have e := hfa.symm.trans hm
  cases e
  have Hd' : HeadOk RR.prog w K mg rs nm := ⟨fun r hr => Hd.fns r (List.mem_cons_of_mem _ hr), Hd.con, Hd.free, Hd.exc⟩
  obtain ⟨rest, L⟩ := lawOk
  have b := FunD.bindsA (ps := ["script"]) F fun _ _ _ _ _ _ us hl => match us, hl with | [_], _ => by kernel_rfl
  exact ⟨fd, fun s v => b s [v] rfl, fun base _ _ => law_ok (W := fuelW) (by decide) L (by simp [rs]) draws Hd' goods F plain⟩
end K44
open PySem PySem.W PySem.Calls PyProof.Rows
theorem PySem.Challenge.cw_sealwright_k44_orders_of_units_holds : PySem.Challenge.rw_sealwright_k44_orders_of_units.Holds := by
  w_on; o_law
  refine HandSHeadRun.head_any (r := OpenLaw.row PySem.Challenge.rw_sealwright_k44_orders_of_units) (q := view (OpenLaw.row PySem.Challenge.rw_sealwright_k44_orders_of_units).prog [25]) (H := K44.hk) (ob := K44.ob) (M := 3000) (loose := K44.loose) (d := HandSHeadRun.topDef (OpenLaw.row PySem.Challenge.rw_sealwright_k44_orders_of_units).prog 25) (kwd := []) K44.ob_eq
    (by kernel_rfl) (fun s => by kernel_rfl) K44.run (by kernel_rfl) (by kernel_rfl) (by kernel_rfl) (by rfl) (by first | assumption | decide +kernel) (by decide +kernel) ⟨rfl, rfl, rfl, rfl, rfl, by decide +kernel⟩ ?hw ?hc
  case hw => w_witness2
  case hc =>
    refine L2.walk_ofE (l := PySem.Challenge.rw_sealwright_k44_orders_of_units) (n := 63) (k := K44.lev' + 1) (x := "script") (CX := L2.CX0) rfl (by decide) (by kernel_rfl) ⟨rfl, by decide, by decide⟩ ?F (fun _ _ _ _ z => z)
    intro w mg fa h Y G hmg0
    obtain ⟨K, KX, c⟩ := Y
    have hmg : mg ("law" : PySem.Str) = some (.ref fa) := by
      have e : (HandSHeadRun.topDef (OpenLaw.row PySem.Challenge.rw_sealwright_k44_orders_of_units).prog 25).name = ("law" : PySem.Str) := by kernel_rfl
      rw [← e]
      exact hmg0
    obtain ⟨fd, hb, hF⟩ := K44.facts (P := (PySem.Challenge.rw_sealwright_k44_orders_of_units).prog) (w := w) KX G hmg c rfl
    exact ⟨K, fd, SW.spLaw K 63, KX, hb, fun H a ns hl _ hS => ⟨a, ns, rfl, hl, hS, fun _ => rfl⟩, hF⟩
