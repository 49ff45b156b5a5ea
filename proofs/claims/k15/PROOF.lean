import PyProof.Rows.All
import Wide.All
import OpenK.AllK
import Wide.FinOn
import PySem.Challenge.RW_saltmill_k15_blake_compress
import HandS.ForMost
import HandS.ForExc
import HandS.CallSlots
import HandS.Flow
import HandS.Wide
import HandS.WideBits
import HandS.TupAny
import HandS.TupMul
import HandS.IsInst
import HandS.Zip
import HandS.Text
import HandS.Style
import HandS.Iter
import HandS.Conv
import HandS.NoneIn
import PyProof.AutoSeq1
import HandS.TryOnly
import HandS.ExcIs
import HandS.ExcField
import HandS.Small
import HandS.Property
import HandS.MakeKwOnly
import HandS.MakeKw
import HandS.Defaults
import HandS.ExcInit
import HandS.Nested
import KE.KExcSuper
import HandS.RaiseMore
import HandS.TupLe
import KE.GoesEnum
import HandS.Rev
import HandS.Gcd
import HandS.Dict
set_option Elab.async false
set_option linter.all false
set_option maxRecDepth 100000
/-! SMCore: a small machine of our own for the program's language: values, a heap as a list, expressions, statements and calls as functions. -/
namespace SM
open PySem (Str)

/-- a value; ro: a list that is never changed again; scr: the list that the law is given; obj: what stands in our heap -/
inductive Val where
  | none
  | bool (b : Bool)
  | int (i : Int)
  | str (x : Str)
  | tup (vs : List Val)
  | ro (vs : List Val)
  | scr (vs : List Val)
  | obj (n : Nat)
  | err (a dx : Nat) (vs : List Val)

/-- what an expression gives, what a slot holds: a value; a list of one's own; a list that is only read here -/
inductive RV where
  | v (x : Val)
  | own (xs : List Val)
  | view (xs : List Val)

inductive HObj where
  | lst (xs : List Val)
  | ins (c : Str) (fs : List (Str × Val))
  | dct (kvs : List (L2.Key × Val))

abbrev Env := List (Option RV)
abbrev Heap := List HObj

structure Exn where
  cls : Str
  args : List Val

inductive EO (α : Type) where
  | ok (a : α) (h : Heap)
  | ex (e : Exn) (h : Heap)
  | no

inductive SO where
  | nx (r : Env) (h : Heap)
  | rt (x : RV) (h : Heap)
  | bk (r : Env) (h : Heap)
  | ct (r : Env) (h : Heap)
  | ex (e : Exn) (r : Env) (h : Heap)
  | no

abbrev E := Env → Heap → EO RV
abbrev T := Env → Heap → EO Bool
abbrev A := Env → Heap → EO (List RV)
abbrev S := Env → Heap → SO
abbrev Fn := List RV → Heap → EO RV

def EO.bind {α β : Type} (o : EO α) (f : α → Heap → EO β) : EO β := match o with
  | .ok a h => f a h
  | .ex e h => .ex e h
  | .no => .no
theorem EO.bind_ok {α β : Type} (a : α) (h : Heap) (f : α → Heap → EO β) : (EO.ok a h).bind f = f a h := (Eq.refl _).trans (Eq.refl _)
theorem EO.bind_ex {α β : Type} (e : Exn) (h : Heap) (f : α → Heap → EO β) : (EO.ex e h : EO α).bind f = .ex e h := (Eq.refl _).trans (Eq.refl _)
theorem EO.bind_no {α β : Type} (f : α → Heap → EO β) : (EO.no : EO α).bind f = .no := (Eq.refl _).trans (Eq.refl _)
/-- an expression's end as a statement's -/
def EO.then {α : Type} (o : EO α) (r : Env) (f : α → Heap → SO) : SO := match o with
  | .ok a h => f a h
  | .ex e h => .ex e r h
  | .no => .no
theorem EO.then_ok {α : Type} (a : α) (r : Env) (h : Heap) (f : α → Heap → SO) : (EO.ok a h).then r f = f a h := (Eq.refl _).trans (Eq.refl _)
theorem EO.then_ex {α : Type} (e : Exn) (r : Env) (h : Heap) (f : α → Heap → SO) : (EO.ex e h : EO α).then r f = .ex e r h := (Eq.refl _).trans (Eq.refl _)
theorem EO.then_no {α : Type} (r : Env) (f : α → Heap → SO) : (EO.no : EO α).then r f = .no := (Eq.refl _).trans (Eq.refl _)
def SO.seq (o : SO) (f : Env → Heap → SO) : SO := match o with
  | .nx r h => f r h
  | .rt x h => .rt x h
  | .bk r h => .bk r h
  | .ct r h => .ct r h
  | .ex e r h => .ex e r h
  | .no => .no
theorem SO.seq_nx (r : Env) (h : Heap) (f : Env → Heap → SO) : (SO.nx r h).seq f = f r h := (Eq.refl _).trans (Eq.refl _)
theorem SO.seq_rt (x : RV) (h : Heap) (f : Env → Heap → SO) : (SO.rt x h).seq f = .rt x h := (Eq.refl _).trans (Eq.refl _)
theorem SO.seq_bk (r : Env) (h : Heap) (f : Env → Heap → SO) : (SO.bk r h).seq f = .bk r h := (Eq.refl _).trans (Eq.refl _)
theorem SO.seq_ct (r : Env) (h : Heap) (f : Env → Heap → SO) : (SO.ct r h).seq f = .ct r h := (Eq.refl _).trans (Eq.refl _)
theorem SO.seq_ex (e : Exn) (r : Env) (h : Heap) (f : Env → Heap → SO) : (SO.ex e r h).seq f = .ex e r h := (Eq.refl _).trans (Eq.refl _)
theorem SO.seq_no (f : Env → Heap → SO) : (SO.no).seq f = .no := (Eq.refl _).trans (Eq.refl _)

abbrev line : Nat := 16777216

/-- a sequence: is it a tuple?, its items -/
def look (h : Heap) : RV → Option (Bool × List Val)
  | .v (.tup vs) => some (true, vs)
  | .v (.ro vs) => some (false, vs)
  | .v (.scr vs) => some (false, vs)
  | .own vs => some (false, vs)
  | .view vs => some (false, vs)
  | .v (.obj n) => match h[n]? with
    | some (.lst vs) => some (false, vs)
    | _ => none
  | _ => none

/-- a list that we know to be tracked -/
def lookL (h : Heap) : RV → Option (List Val)
  | .v (.ro vs) => some vs
  | .own vs => some vs
  | .view vs => some vs
  | .v (.obj n) => match h[n]? with
    | some (.lst vs) => some vs
    | _ => none
  | _ => none
def lookT : RV → Option (List Val)
  | .v (.tup vs) => some vs
  | _ => none

/-- as a value that may be kept -/
def RV.keep : RV → Option Val
  | .v x => some x
  | .own xs => some (.ro xs)
  | .view _ => none
/-- as an argument -/
def RV.arg : RV → RV
  | .own xs => .v (.ro xs)
  | r => r

def opt {α : Type} (o : Option α) (h : Heap) : EO α := match o with
  | some a => .ok a h
  | none => .no
theorem opt_some {α : Type} (a : α) (h : Heap) : opt (some a) h = .ok a h := (Eq.refl _).trans (Eq.refl _)
theorem opt_none {α : Type} (h : Heap) : opt (none : Option α) h = .no := (Eq.refl _).trans (Eq.refl _)

/-! ### expressions -/
def eC (x : Val) : E := fun _ h => .ok (.v x) h
def rdSlot : RV → RV
  | .own xs => .view xs
  | r => r
def eVar (i : Nat) : E := fun r h => match r[i]? with
  | some (some x) => .ok (rdSlot x) h
  | _ => .no
abbrev F1 := Heap → RV → Option RV
abbrev F2 := Heap → RV → RV → Option RV
def e1 (f : F1) (a : E) : E := fun r h => (a r h).bind fun x h1 => opt (f h1 x) h1
def e2 (f : F2) (a b : E) : E := fun r h => (a r h).bind fun x h1 => (b r h1).bind fun y h2 => opt (f h2 x y) h2
def aNil : A := fun _ h => .ok [] h
def aCons (a : E) (as : A) : A := fun r h => (a r h).bind fun x h1 => (as r h1).bind fun xs h2 => .ok (x.arg :: xs) h2
def keeps : List RV → Option (List Val)
  | [] => some []
  | r :: rs => match r.keep, keeps rs with
    | some x, some xs => some (x :: xs)
    | _, _ => none
def eTup (as : A) : E := fun r h => (as r h).bind fun rs h1 => match keeps rs with
  | some xs => if xs.length ≤ line then .ok (.v (.tup xs)) h1 else .no
  | none => .no
def eLst (as : A) : E := fun r h => (as r h).bind fun rs h1 => match keeps rs with
  | some xs => if xs.length ≤ line then .ok (.own xs) h1 else .no
  | none => .no
def eCall (f : Fn) (as : A) : E := fun r h => (as r h).bind f
def eIf (t : T) (a b : E) : E := fun r h => (t r h).bind fun c h1 => if c = true then a r h1 else b r h1

/-! ### tests -/
def truth (h : Heap) : RV → Option Bool
  | .v .none => some false
  | .v (.bool b) => some b
  | .v (.int i) => some (i != 0)
  | .v (.str x) => if x.length ≤ line then some ((x.length : Int) != 0) else none
  | r => match look h r with
    | some (_, xs) => some (!xs.isEmpty)
    | none => none
/-- of a bool -/
def tB (a : E) : T := fun r h => (a r h).bind fun x h1 => match x with
  | .v (.bool b) => .ok b h1
  | _ => .no
def tTru (a : E) : T := fun r h => (a r h).bind fun x h1 => opt (truth h1 x) h1
def tAnd (a b : T) : T := fun r h => (a r h).bind fun c h1 => if c = true then b r h1 else .ok false h1
def tOr (a b : T) : T := fun r h => (a r h).bind fun c h1 => if c = true then .ok true h1 else b r h1
def tNot (a : T) : T := fun r h => (a r h).bind fun c h1 => .ok (!c) h1
/-- and, or, not as values -/
def eAnd (a b : E) : E := fun r h => (a r h).bind fun x h1 => match truth h1 x with
  | some true => b r h1
  | some false => .ok x h1
  | none => .no
def eOr (a b : E) : E := fun r h => (a r h).bind fun x h1 => match truth h1 x with
  | some true => .ok x h1
  | some false => b r h1
  | none => .no
def eNot (a : E) : E := fun r h => (a r h).bind fun x h1 => match truth h1 x with
  | some c => .ok (.v (.bool (!c))) h1
  | none => .no

/-! ### operations on values -/
def fI (C : Int → Int → Prop) [∀ i j, Decidable (C i j)] (g : Int → Int → Val) : F2 := fun _ x y => match x, y with
  | .v (.int i), .v (.int j) => if C i j then some (.v (g i j)) else none
  | _, _ => none
def fI0 (g : Int → Int → Val) : F2 := fun _ x y => match x, y with
  | .v (.int i), .v (.int j) => some (.v (g i j))
  | _, _ => none
abbrev fLt : F2 := fI0 fun i j => .bool (decide (i < j))
abbrev fLe : F2 := fI0 fun i j => .bool (decide (i ≤ j))
abbrev fGt : F2 := fI0 fun i j => .bool (decide (j < i))
abbrev fGe : F2 := fI0 fun i j => .bool (decide (j ≤ i))
abbrev fSub : F2 := fI0 fun i j => .int (i - j)
abbrev fAnd : F2 := fI0 fun i j => .int (PySem.Builtin.bitAnd i j)
abbrev fOr : F2 := fI0 fun i j => .int (PySem.Builtin.bitOr i j)
abbrev fXor : F2 := fI0 fun i j => .int (PySem.Builtin.bitXor i j)
abbrev fShr : F2 := fI (fun _ j => 0 ≤ j) fun i j => .int (i / 2 ^ j.toNat)
abbrev fMod : F2 := fI (fun _ j => 0 < j) fun i j => .int (i % j)
/-- // by a divisor below 2 ^ 9000 -/
abbrev fDiv : F2 := fI (fun _ j => 0 < j ∧ j.natAbs.log2 < 9000) fun i j => .int (i / j)
abbrev fShl : F2 := fI (fun i j => 0 ≤ j ∧ (PySem.Builtin.Int.intBits i : Int) + j ≤ 2 ^ 27) fun i j => .int (i * 2 ^ j.toNat)
def fAdd : F2 := fun h x y => match x, y with
  | .v (.int i), .v (.int j) => some (.v (.int (i + j)))
  | .v (.str i), .v (.str j) => if i.length + j.length ≤ line then some (.v (.str (i ++ j))) else none
  | .v (.tup a), .v (.tup b) => if a.length + b.length ≤ line then some (.v (.tup (a ++ b))) else none
  | x, y => match lookL h x, lookL h y with
    | some a, some b => if a.length + b.length ≤ line then some (.own (a ++ b)) else none
    | _, _ => none
abbrev CMul (i j : Int) : Prop := (PySem.Builtin.Int.intBits i : Int) + (PySem.Builtin.Int.intBits j : Int) ≤ 134217728
def fMul : F2 := fun h x y => match x, y with
  | .v (.int i), .v (.int j) => if CMul i j then some (.v (.int (i * j))) else none
  | .v (.tup a), .v (.int k) => if a.isEmpty = false ∧ 2 ≤ k ∧ k ≤ 1000 ∧ a.length ≤ 1000 then some (.v (.tup (List.replicate k.toNat a).flatten)) else none
  | x, .v (.int k) => match lookL h x with
    | some a => if -(2 ^ 63) ≤ k ∧ k < 2 ^ 63 ∧ a.length * k.toNat ≤ line then some (.own (List.replicate k.toNat a).flatten) else none
    | none => none
  | _, _ => none
/-- a place in a sequence, of any sign -/
abbrev atI {α : Type} (xs : List α) (i : Int) : Option α := L2.atI xs i
def fIx : F2 := fun h x y => match y with
  | .v (.int i) => match x with
    | .v (.str z) => if z.length ≤ line then (L2.atI z.cps.toList i).map fun c => .v (.str ⟨#[c]⟩) else none
    | x => match look h x with
      | some (_, xs) => (L2.atI xs i).map .v
      | none => none
  | _ => none
def fLen : F1 := fun h x => match x with
  | .v (.str z) => if z.length ≤ line then some (.v (.int z.length)) else none
  | x => match look h x with
    | some (_, xs) => some (.v (.int xs.length))
    | none => none
def fNeg : F1 := fun _ x => match x with
  | .v (.int i) => some (.v (.int (-i)))
  | _ => none
def fInv : F1 := fun _ x => match x with
  | .v (.int i) => some (.v (.int (PySem.Builtin.bitNot i)))
  | _ => none
def fAbs : F1 := fun _ x => match x with
  | .v (.int i) => some (.v (.int (if i < 0 then -i else i)))
  | _ => none
def fInt : F1 := fun _ x => match x with
  | .v (.int i) => some (.v (.int i))
  | .v (.bool b) => some (.v (.int (if b then 1 else 0)))
  | _ => none
def fList : F1 := fun h x => match look h x with
  | some (_, xs) => some (.own xs)
  | none => none
def fTuple : F1 := fun h x => match look h x with
  | some (_, xs) => some (.v (.tup xs))
  | none => none
def fMax : F2 := fI0 fun i j => .int (if j > i then j else i)
def fMin : F2 := fI0 fun i j => .int (if j < i then j else i)
end SM
namespace SM
open PySem (Str PyData)
/-! ### equality, membership, kinds -/
mutual
def toD : Val → Option PyData
  | .none => some .none
  | .bool b => some (.bool b)
  | .int i => some (.int i)
  | .str x => some (.str x)
  | .tup vs => (toDs vs).map .tuple
  | .ro vs => (toDs vs).map .list
  | .scr _ => none
  | .obj _ => none
  | .err _ _ _ => none
def toDs : List Val → Option (List PyData)
  | [] => some []
  | x :: xs => match toD x, toDs xs with
    | some d, some ds => some (d :: ds)
    | _, _ => none
end
def toDR (h : Heap) : RV → Option PyData
  | .v (.obj n) => match h[n]? with
    | some (.lst vs) => (toDs vs).map .list
    | _ => none
  | .v x => toD x
  | .own vs => (toDs vs).map .list
  | .view vs => (toDs vs).map .list
def fEq (neg : Bool) : F2 := fun h x y => match toDR h x, toDR h y with
  | some d, some e => if PySem.SeqAt.shaped d = true ∧ PySem.SeqAt.shaped e = true then some (.v (.bool (if neg then !PyData.eqv d e else PyData.eqv d e))) else none
  | _, _ => none
def flat : Val → Bool
  | .none => true
  | .bool _ => true
  | .int _ => true
  | .str _ => true
  | _ => false
/-- == of flat values -/
def eqF : Val → Val → Bool
  | .none, .none => true
  | .bool a, .bool b => a == b
  | .bool a, .int b => (if a then 1 else 0) == b
  | .int a, .bool b => a == (if b then 1 else 0)
  | .int a, .int b => a == b
  | .str a, .str b => a == b
  | _, _ => false
def fIn (neg : Bool) : F2 := fun h x y => match x with
  | .v x => match y with
    | .v (.str z) => match x with
      | .str c => match c.cps.toList with
        | [k] => some (.v (.bool (if neg then !decide (k ∈ z.cps.toList) else decide (k ∈ z.cps.toList))))
        | _ => none
      | _ => none
    | y => match look h y with
      | some (_, xs) => if flat x = true ∧ xs.all flat = true then some (.v (.bool (if neg then !xs.any fun z => eqF z x else xs.any fun z => eqF z x))) else none
      | none => none
  | _ => none
def fNone (neg : Bool) : F1 := fun _ x => match x with
  | .v .none => some (.v (.bool (!neg)))
  | _ => some (.v (.bool neg))
def tyName (h : Heap) : RV → Option String
  | .v .none => some "NoneType"
  | .v (.bool _) => some "bool"
  | .v (.int _) => some "int"
  | .v (.str _) => some "str"
  | .v (.tup _) => some "tuple"
  | .v (.ro _) => some "list"
  | .v (.scr _) => some "list"
  | .own _ => some "list"
  | .view _ => some "list"
  | .v (.err _ _ _) => none
  | .v (.obj n) => match h[n]? with
    | some (.lst _) => some "list"
    | some (.dct _) => some "dict"
    | _ => none
def subT (t T : String) : Bool := t == T || (t == "bool" && T == "int")
def fIs (T : String) : F1 := fun h x => match tyName h x with
  | some t => some (.v (.bool (subT t T)))
  | none => none
def fSum : F1 := fun h x => match lookL h x with
  | some xs => if (xs.all fun x => match x with
    | .int _ => true
    | _ => false) = true then some (.v (.int (xs.map fun x => match x with
    | .int i => i
    | _ => 0).sum)) else none
  | none => none
def fAll (any : Bool) : F1 := fun h x => match lookL h x with
  | some xs => if (xs.all fun x => match x with
    | .bool _ => true
    | _ => false) = true then some (.v (.bool (if any then xs.any fun x => match x with
    | .bool b => b
    | _ => false else xs.all fun x => match x with
    | .bool b => b
    | _ => false))) else none
  | none => none
/-- a < b < c -/
def eChain (f g : F2) (a b c : E) : E := fun r h => (a r h).bind fun x h1 => (b r h1).bind fun y h2 => match f h2 x y with
  | some (.v (.bool true)) => (c r h2).bind fun z h3 => opt (g h3 y z) h3
  | some (.v (.bool false)) => .ok (.v (.bool false)) h2
  | _ => .no
end SM
namespace SM
open PySem (Str)
/-! ### statements -/
def sNil : S := fun r h => .nx r h
def sCons (a b : S) : S := fun r h => (a r h).seq b
/-- a value kept in a slot: a list of one's own stands for good from now on -/
def sSet (i : Nat) (a : E) : S := fun r h => (a r h).then r fun x h1 => match x.keep with
  | some y => .nx (r.set i (some (.v y))) h1
  | none => .no
/-- a list of one's own kept in a slot, as one's own -/
def sOwn (i : Nat) (a : E) : S := fun r h => (a r h).then r fun x h1 => match x with
  | .own xs => .nx (r.set i (some (.own xs))) h1
  | _ => .no
/-- a list of one's own kept in the heap, the slot holds its place -/
def sHeap (i : Nat) (a : E) : S := fun r h => (a r h).then r fun x h1 => match x with
  | .own xs => .nx (r.set i (some (.v (.obj h1.length)))) (h1 ++ [.lst xs])
  | _ => .no
/-- a slot's list of one's own stands for good from here on -/
def sFrz (i : Nat) : S := fun r h => match r[i]? with
  | some (some (.own xs)) => .nx (r.set i (some (.v (.ro xs)))) h
  | _ => .no
def sExpr (a : E) : S := fun r h => (a r h).then r fun _ h1 => .nx r h1
def sRet (a : E) : S := fun r h => (a r h).then r fun x h1 => match x with
  | .view _ => .no
  | x => .rt x h1
/-- return of a name that holds a list of one's own -/
def sRetOwn (i : Nat) : S := fun r h => match r[i]? with
  | some (some (.own xs)) => .rt (.own xs) h
  | _ => .no
def sRetN : S := fun r h => .rt (.v .none) h
def sIf (t : T) (a b : S) : S := fun r h => (t r h).then r fun c h1 => if c = true then a r h1 else b r h1
def sPass : S := fun r h => .nx r h
def sBreak : S := fun r h => .bk r h
def sCont : S := fun r h => .ct r h
/-- what stands here is never come to -/
def sNever : S := fun _ _ => .no
/-- a slot's list of one's own: an item more -/
def sApp (i : Nat) (a : E) : S := fun r h => match r[i]? with
  | some (some (.own xs)) => (a r h).then r fun x h1 => match x.keep with
    | some y => if xs.length < line then .nx (r.set i (some (.own (xs ++ [y])))) h1 else .no
    | none => .no
  | _ => .no
/-- .. some items more (of a list that we know) -/
def sExt (i : Nat) (a : E) : S := fun r h => match r[i]? with
  | some (some (.own xs)) => (a r h).then r fun x h1 => match lookL h1 x with
    | some ys => if xs.length + ys.length ≤ line then .nx (r.set i (some (.own (xs ++ ys)))) h1 else .no
    | none => .no
  | _ => .no
/-- slot[k] = value: the value first -/
def sSetIx (i : Nat) (ix : E) (a : E) : S := fun r h => (a r h).then r fun x h1 => match x.keep with
  | some y => match r[i]? with
    | some (some (.own xs)) => (ix r h1).then r fun j h2 => match j with
      | .v (.int j) => match L2.ixN xs.length j with
        | some n => .nx (r.set i (some (.own (xs.set n y)))) h2
        | none => .no
      | _ => .no
    | _ => .no
  | none => .no
/-- o[k] = value, o a list of the heap -/
def sSetHp (o : E) (ix : E) (a : E) : S := fun r h => (a r h).then r fun x h1 => match x.keep with
  | some y => (o r h1).then r fun p h2 => match p with
    | .v (.obj m) => (ix r h2).then r fun j h3 => match j with
      | .v (.int j) => match h3[m]? with
        | some (.lst xs) => match L2.ixN xs.length j with
          | some n => .nx r (h3.set m (.lst (xs.set n y)))
          | none => .no
        | _ => .no
      | _ => .no
    | _ => .no
  | none => .no
/-- a, b, .. = e -/
def setAll : List Nat → List Val → Env → Env
  | i :: is, x :: xs, r => setAll is xs (r.set i (some (.v x)))
  | _, _, r => r
def sUnp (is : List Nat) (a : E) : S := fun r h => (a r h).then r fun x h1 => match x with
  | .v (.tup xs) => if xs.length = is.length then .nx (setAll is xs r) h1 else .no
  | _ => .no
/-- a, b = x, y: two names -/
def sPar2 (i j : Nat) (a b : E) : S := fun r h => (a r h).then r fun x h1 => match x.keep with
  | some x => (b r h1).then r fun y h2 => match y.keep with
    | some y => .nx ((r.set i (some (.v x))).set j (some (.v y))) h2
    | none => .no
  | none => .no
/-- slot op= e -/
def sAug (i : Nat) (f : F2) (a : E) : S := fun r h => match r[i]? with
  | some (some (.v x)) => (a r h).then r fun y h1 => match f h1 (.v x) y with
    | some z => match z.keep with
      | some z => .nx (r.set i (some (.v z))) h1
      | none => .no
    | none => .no
  | _ => .no
/-- a loop's turn is behind -/
def SO.turn (o : SO) (f : Env → Heap → SO) : SO := match o with
  | .nx r h => f r h
  | .ct r h => f r h
  | .bk r h => .nx r h
  | .rt x h => .rt x h
  | .ex e r h => .ex e r h
  | .no => .no
theorem SO.turn_nx (r : Env) (h : Heap) (f : Env → Heap → SO) : (SO.nx r h).turn f = f r h := (Eq.refl _).trans (Eq.refl _)
theorem SO.turn_ct (r : Env) (h : Heap) (f : Env → Heap → SO) : (SO.ct r h).turn f = f r h := (Eq.refl _).trans (Eq.refl _)
theorem SO.turn_bk (r : Env) (h : Heap) (f : Env → Heap → SO) : (SO.bk r h).turn f = .nx r h := (Eq.refl _).trans (Eq.refl _)
theorem SO.turn_rt (x : RV) (h : Heap) (f : Env → Heap → SO) : (SO.rt x h).turn f = .rt x h := (Eq.refl _).trans (Eq.refl _)
theorem SO.turn_ex (e : Exn) (r : Env) (h : Heap) (f : Env → Heap → SO) : (SO.ex e r h).turn f = .ex e r h := (Eq.refl _).trans (Eq.refl _)
theorem SO.turn_no (f : Env → Heap → SO) : (SO.no).turn f = .no := (Eq.refl _).trans (Eq.refl _)
def sWhile (c : T) (b : S) : Nat → S
  | 0 => fun _ _ => .no
  | n + 1 => fun r h => (c r h).then r fun k h1 => if k = true then (b r h1).turn (sWhile c b n) else .nx r h1
/-- a loop's target -/
inductive Tg where
  | nm (i : Nat)
  | tp (is : List Nat)
def Tg.put : Tg → Val → Env → Option Env
  | .nm i, x, r => some (r.set i (some (.v x)))
  | .tp is, .tup xs, r => if xs.length = is.length then some (setAll is xs r) else none
  | .tp _, _, _ => none
/-- the objects at dep are as they were -/
def Same (dep : List Nat) (h0 h : Heap) : Prop := ∀ n, n ∈ dep → h[n]? = h0[n]?
open Classical in
noncomputable def chkS (dep : List Nat) (h0 h : Heap) (k : SO) : SO := match dep with
  | [] => k
  | _ :: _ => if Same dep h0 h then k else .no
open Classical in
noncomputable def chkE {α : Type} (dep : List Nat) (h0 h : Heap) (k : EO α) : EO α := match dep with
  | [] => k
  | _ :: _ => if Same dep h0 h then k else .no
theorem chkS_nil (h0 h : Heap) (k : SO) : chkS [] h0 h k = k := (Eq.refl _).trans (Eq.refl _)
theorem chkE_nil {α : Type} (h0 h : Heap) (k : EO α) : chkE [] h0 h k = k := (Eq.refl _).trans (Eq.refl _)
theorem chkS_same (dep : List Nat) (h : Heap) (k : SO) : chkS dep h h k = k := by
  cases dep with
  | nil => rfl
  | cons n ns => exact if_pos fun _ _ => rfl
theorem chkE_same {α : Type} (dep : List Nat) (h : Heap) (k : EO α) : chkE dep h h k = k := by
  cases dep with
  | nil => rfl
  | cons n ns => exact if_pos fun _ _ => rfl
noncomputable def forL (g : Tg) (b : S) (dep : List Nat) (h0 : Heap) : List Val → S
  | [] => fun r h => chkS dep h0 h (.nx r h)
  | x :: xs => fun r h => chkS dep h0 h (match g.put x r with
    | some r1 => (b r1 h).turn (forL g b dep h0 xs)
    | none => .no)
/-- what is walked: its items, the objects of the heap that it leans on -/
abbrev I := Env → Heap → EO (List Val × List Nat)
/-- a sequence that stays through a loop: a tuple?, its items, what it leans on -/
def seqV (h : Heap) : RV → Option (Bool × List Val × List Nat)
  | .v (.tup xs) => some (true, xs, [])
  | .v (.ro xs) => some (false, xs, [])
  | .v (.scr xs) => some (false, xs, [])
  | .own xs => some (false, xs, [])
  | .v (.obj n) => match h[n]? with
    | some (.lst xs) => some (false, xs, [n])
    | _ => none
  | _ => none
/-- .. through an expression -/
def seqE (h : Heap) : RV → Option (Bool × List Val × List Nat)
  | .view xs => some (false, xs, [])
  | x => seqV h x
def iOf (sq : Heap → RV → Option (Bool × List Val × List Nat)) (a : E) : I := fun r h => (a r h).bind fun x h1 => match sq h1 x with
  | some (_, xs, dep) => .ok (xs, dep) h1
  | none => .no
abbrev iSeq : E → I := iOf seqV
abbrev iSeqE : E → I := iOf seqE
/-- a slot that holds a list which is only read here -/
def iView (i : Nat) : I := fun r h => match r[i]? with
  | some (some (.view xs)) => .ok (xs, []) h
  | some (some (.v x)) => match seqV h (.v x) with
    | some (_, xs, dep) => .ok (xs, dep) h
    | none => .no
  | _ => .no
def upTo (lo : Int) : Nat → List Val
  | 0 => []
  | n + 1 => .int lo :: upTo (lo + 1) n
def iRng1 (a : E) : I := fun r h => (a r h).bind fun x h1 => match x with
  | .v (.int j) => if -(2 ^ 62) ≤ j ∧ j < 2 ^ 62 then .ok (upTo 0 j.toNat, []) h1 else .no
  | _ => .no
def iRng2 (a b : E) : I := fun r h => (a r h).bind fun x h1 => (b r h1).bind fun y h2 => match x, y with
  | .v (.int i), .v (.int j) => if -(2 ^ 62) ≤ i ∧ i < 2 ^ 62 ∧ -(2 ^ 62) ≤ j ∧ j < 2 ^ 62 then .ok (upTo i (j - i).toNat, []) h2 else .no
  | _, _ => .no
def pairs : List Val → List Val → List Val
  | x :: xs, y :: ys => .tup [x, y] :: pairs xs ys
  | _, _ => []
def iZip (sq : Heap → RV → Option (Bool × List Val × List Nat)) (a b : E) : I := fun r h => (a r h).bind fun x h1 => (b r h1).bind fun y h2 => match sq h2 x, sq h2 y with
  | some (_, xs, d1), some (_, ys, d2) => .ok (pairs xs ys, d1 ++ d2) h2
  | _, _ => .no
noncomputable def sFor (g : Tg) (it : I) (b : S) : S := fun r h => (it r h).then r fun p h1 => forL g b p.2 h1 p.1 r h1
/-- a comprehension: no exception leaves it -/
def wipeE (r : Env) : List Nat → Env
  | [] => r
  | v :: vs => (wipeE r vs).set v none
noncomputable def lcGo (g : Tg) (c : T) (e : E) (r : Env) (dep : List Nat) (h0 : Heap) : List Val → List Val → Heap → EO RV
  | [], acc, h => chkE dep h0 h (.ok (.own acc) h)
  | x :: xs, acc, h => chkE dep h0 h (match g.put x r with
    | some r1 => match c r1 h with
      | .ok true h1 => match e r1 h1 with
        | .ok y h2 => match y.keep with
          | some z => lcGo g c e r dep h0 xs (acc ++ [z]) h2
          | none => .no
        | _ => .no
      | .ok false h1 => lcGo g c e r dep h0 xs acc h1
      | _ => .no
    | none => .no)
noncomputable def eLc (own : List Nat) (g : Tg) (it : I) (c : T) (e : E) : E := fun r h => (it r h).bind fun p h1 => if p.1.length ≤ line then lcGo g c e (wipeE r own) p.2 h1 p.1 [] h1 else .no
def tYes : T := fun _ h => .ok true h

/-! ### functions -/
mutual
def Val.under (n : Nat) : Val → Prop
  | .tup vs => underAll n vs
  | .ro vs => underAll n vs
  | .scr vs => underAll n vs
  | .obj k => k < n
  | .err _ _ vs => underAll n vs
  | _ => True
def underAll (n : Nat) : List Val → Prop
  | [] => True
  | x :: xs => x.under n ∧ underAll n xs
end
def RV.under (n : Nat) : RV → Prop
  | .v x => x.under n
  | .own xs => underAll n xs
  | .view xs => underAll n xs
def underF (n : Nat) : List (Str × Val) → Prop
  | [] => True
  | (_, x) :: xs => x.under n ∧ underF n xs
def underK (n : Nat) : List (L2.Key × Val) → Prop
  | [] => True
  | (_, x) :: xs => x.under n ∧ underK n xs
def HObj.under (n : Nat) : HObj → Prop
  | .lst vs => underAll n vs
  | .ins _ fs => underF n fs
  | .dct kvs => underK n kvs
/-- nothing of ours that was there leads to what is new -/
def Shr (h h' : Heap) : Prop := h.length ≤ h'.length ∧ ∀ i o, i < h.length → h'[i]? = some o → h[i]? = some o ∨ o.under h.length
open Classical in
noncomputable def fin (h : Heap) : SO → EO RV
  | .nx _ h' => .ok (.v .none) (if Shr h h' then h'.take h.length else h')
  | .rt x h' => .ok x (if Shr h h' ∧ x.under h.length then h'.take h.length else h')
  | .ex e _ h' => .ex e (if Shr h h' ∧ underAll h.length e.args then h'.take h.length else h')
  | _ => .no
noncomputable def mkFn (n : Nat) (b : S) : Fn := fun args h => fin h (b (args.map some ++ List.replicate (n - args.length) none) h)
end SM

/-! SMRel: how the small machine's state stands for the layer's abstract heap. -/
namespace SM
open PySem (Str)
open L2 (V HO Hp upd upd_same upd_ne SqL SqT Rd)
abbrev Addr := PySem.Addr
abbrev Frag := PySem.W.Frag
abbrev Mg := Str → Option PySem.Value

/-- a world: where our objects lie, what no value may lie at, how many objects, the abstract heap -/
structure Rw where
  io : Nat → Addr
  P : Addr → Prop
  n : Nat
  H : Hp

/-- a list in the written part -/
def KL (K : Frag) (a : Addr) (xs : List V) : Prop :=
  ∃ (o : PySem.Obj) (its : Array PySem.Value) (n : Nat), K.lookup a = some o ∧ o.cls = .type "list" ∧ o.dict = none ∧ o.data = .seq its n ∧ its.size ≤ PySem.sizeLine ∧ L2.Vals xs its.toList
def KT (K : Frag) (a : Addr) (xs : List V) : Prop :=
  ∃ (o : PySem.Obj) (its : Array PySem.Value) (n : Nat), K.lookup a = some o ∧ o.cls = .type "tuple" ∧ o.data = .seq its n ∧ its.size ≤ PySem.sizeLine ∧ L2.Vals xs its.toList
def Rw.out (w : Rw) (a : Addr) : Prop := ∀ k, k < w.n → w.io k ≠ a
/-- a tuple, a list that stands for good -/
def STup (K : Frag) (w : Rw) (a : Addr) (xs : List V) : Prop := (Rd w.H a (.tup xs) ∧ ¬ w.P a) ∨ KT K a xs
def SLst (K : Frag) (w : Rw) (a : Addr) (xs : List V) : Prop := (Rd w.H a (.lst xs) ∧ ¬ w.P a) ∨ KL K a xs
/-- a list that is read here -/
def SVw (w : Rw) (a : Addr) (xs : List V) : Prop := w.H a = some (.lst xs) ∧ w.out a
/-- a list that is never changed again -/
def SRo (w : Rw) (a : Addr) (xs : List V) : Prop := w.H a = some (.lst xs) ∧ ¬ w.P a

/-- the field of an exception -/
def SErr (w : Rw) (dx : Addr) (ys : List V) : Prop := ∀ y r, ys = y :: r → w.H dx = some (.xd [("at", y)]) ∧ ¬ w.P dx
mutual
def RVal (K : Frag) (w : Rw) : Val → V → Prop
  | .none, v => v = .non
  | .bool b, v => v = .bl b
  | .int i, v => v = .int i
  | .str x, v => v = .str x
  | .tup vs, v => ∃ a xs, v = .ref a ∧ STup K w a xs ∧ RVals K w vs xs
  | .ro vs, v => ∃ a xs, v = .ref a ∧ SRo w a xs ∧ RVals K w vs xs
  | .scr vs, v => ∃ a xs, v = .ref a ∧ SLst K w a xs ∧ RVals K w vs xs
  | .obj k, v => k < w.n ∧ v = .ref (w.io k)
  | .err a dx vs, v => v = .ref a ∧ ∃ ys, SErr w dx ys ∧ RVals K w vs ys
def RVals (K : Frag) (w : Rw) : List Val → List V → Prop
  | [], xs => xs = []
  | x :: vs, xs => ∃ y ys, xs = y :: ys ∧ RVal K w x y ∧ RVals K w vs ys
end

def RFs (K : Frag) (w : Rw) : List (Str × Val) → List (Str × V) → Prop
  | [], gs => gs = []
  | (f, x) :: fs, gs => ∃ y r, gs = (f, y) :: r ∧ RVal K w x y ∧ RFs K w fs r
def RKs (K : Frag) (w : Rw) : List (L2.Key × Val) → List (L2.Key × V) → Prop
  | [], gs => gs = []
  | (f, x) :: fs, gs => ∃ y r, gs = (f, y) :: r ∧ RVal K w x y ∧ RKs K w fs r

def RObj (K : Frag) (mg : Mg) (w : Rw) (a : Addr) : HObj → Prop
  | .lst vs => ∃ xs, w.H a = some (.lst xs) ∧ RVals K w vs xs
  | .ins c fs => ∃ C dx gs, w.H a = some (.ins C dx gs) ∧ mg c = some (.ref C) ∧ RFs K w fs gs
  | .dct kvs => ∃ gs, w.H a = some (.dK gs) ∧ RKs K w kvs gs

/-- the heap -/
structure RHp (K : Frag) (mg : Mg) (w : Rw) (h : Heap) : Prop where
  len : h.length = w.n
  obj : ∀ k o, h[k]? = some o → RObj K mg w (w.io k) o
  inj : ∀ j k, j < w.n → k < w.n → w.io j = w.io k → j = k
  inP : ∀ k, k < w.n → w.P (w.io k)
  ph : ∀ b, w.P b → ∃ o, w.H b = some o

/-- from one world to a later one, our own objects may have changed -/
structure Le (w w' : Rw) : Prop where
  n : w.n ≤ w'.n
  io : ∀ k, k < w.n → w'.io k = w.io k
  keep : ∀ b o, w.H b = some o → w.out b → w'.H b = some o
  there : ∀ b o, w.H b = some o → ∃ o', w'.H b = some o'
  P : ∀ b o, w.H b = some o → (w'.P b ↔ w.P b)
  new : ∀ k, w.n ≤ k → k < w'.n → w.H (w'.io k) = none

section
variable {K : Frag} {mg : Mg} {w w1 w2 : Rw} {h h' : Heap} {a : Addr}
theorem Le.refl (w : Rw) : Le w w := ⟨Nat.le_refl _, fun _ _ => rfl, fun _ _ e _ => e, fun _ o e => ⟨o, e⟩, fun _ _ _ => Iff.rfl, fun k h1 h2 => absurd h2 (Nat.not_lt.mpr h1)⟩
theorem Le.out (l : Le w w1) {b : Addr} {o : HO} (e : w.H b = some o) (u : w.out b) : w1.out b := fun k hk z => by
  by_cases h1 : k < w.n
  · rw [l.io k h1] at z
    exact u k h1 z
  · have := l.new k (Nat.not_lt.mp h1) hk
    rw [z, e] at this
    cases this
theorem Le.fresh (l : Le w w1) {b : Addr} (e : w1.H b = none) : w.H b = none := by
  cases q : w.H b with
  | none => rfl
  | some o =>
    obtain ⟨o', q'⟩ := l.there b o q
    rw [e] at q'
    cases q'
theorem Le.trans (l : Le w w1) (m : Le w1 w2) : Le w w2 where
  n := Nat.le_trans l.n m.n
  io := fun k hk => (m.io k (Nat.lt_of_lt_of_le hk l.n)).trans (l.io k hk)
  keep := fun b o e u => m.keep b o (l.keep b o e u) (l.out e u)
  there := fun b o e => by
    obtain ⟨o1, e1⟩ := l.there b o e
    exact m.there b o1 e1
  P := fun b o e => by
    obtain ⟨o1, e1⟩ := l.there b o e
    exact (m.P b o1 e1).trans (l.P b o e)
  new := fun k h1 h2 => by
    by_cases h3 : k < w1.n
    · rw [m.io k h3]
      exact l.new k h1 h3
    · exact l.fresh (m.new k (Nat.not_lt.mp h3) h2)
theorem RHp.outP (r : RHp K mg w h) {b : Addr} (hb : ¬ w.P b) : w.out b := fun k hk z => hb (z ▸ r.inP k hk)
theorem rd_keep (l : Le w w1) {u : HO} (q : Rd w.H a u) (ho : w.out a) : Rd w1.H a u := by
  rcases q with q | ⟨o, q⟩
  · exact .inl (l.keep _ _ q ho)
  · exact .inr ⟨o, l.keep _ _ q ho⟩
theorem rd_some {u : HO} (q : Rd w.H a u) : ∃ o, w.H a = some o := by
  rcases q with q | ⟨o, q⟩
  · exact ⟨_, q⟩
  · exact ⟨_, q⟩
theorem STup.le (r : RHp K mg w h) (l : Le w w1) {xs : List V} (q : STup K w a xs) : STup K w1 a xs := by
  rcases q with ⟨q, p⟩ | q
  · refine .inl ⟨rd_keep l q (r.outP p), fun z => p ?_⟩
    obtain ⟨o, e⟩ := rd_some q
    exact (l.P a o e).mp z
  · exact .inr q
theorem SLst.le (r : RHp K mg w h) (l : Le w w1) {xs : List V} (q : SLst K w a xs) : SLst K w1 a xs := by
  rcases q with ⟨q, p⟩ | q
  · refine .inl ⟨rd_keep l q (r.outP p), fun z => p ?_⟩
    obtain ⟨o, e⟩ := rd_some q
    exact (l.P a o e).mp z
  · exact .inr q
theorem SVw.le (l : Le w w1) {xs : List V} (q : SVw w a xs) : SVw w1 a xs := ⟨l.keep a _ q.1 q.2, l.out q.1 q.2⟩
theorem SRo.le (r : RHp K mg w h) (l : Le w w1) {xs : List V} (q : SRo w a xs) : SRo w1 a xs := ⟨l.keep a _ q.1 (r.outP q.2), fun z => q.2 ((l.P a _ q.1).mp z)⟩

theorem SErr.le (r : RHp K mg w h) (l : Le w w1) {ys : List V} (q : SErr w a ys) : SErr w1 a ys := fun y t e => ⟨l.keep a _ (q y t e).1 (r.outP (q y t e).2), fun z => (q y t e).2 ((l.P a _ (q y t e).1).mp z)⟩
mutual
theorem RVal.le (r : RHp K mg w h) (l : Le w w1) : ∀ {x : Val} {v : V}, RVal K w x v → RVal K w1 x v
  | .none, _, q => q
  | .bool _, _, q => q
  | .int _, _, q => q
  | .str _, _, q => q
  | .tup _, _, ⟨a, xs, e, s, q⟩ => ⟨a, xs, e, s.le r l, RVals.le r l q⟩
  | .ro _, _, ⟨a, xs, e, s, q⟩ => ⟨a, xs, e, s.le r l, RVals.le r l q⟩
  | .scr _, _, ⟨a, xs, e, s, q⟩ => ⟨a, xs, e, s.le r l, RVals.le r l q⟩
  | .obj k, _, ⟨hk, e⟩ => ⟨Nat.lt_of_lt_of_le hk l.n, by rw [l.io k hk]; exact e⟩
  | .err _ _ _, _, ⟨e, ys, s, q⟩ => ⟨e, ys, s.le r l, RVals.le r l q⟩
theorem RVals.le (r : RHp K mg w h) (l : Le w w1) : ∀ {xs : List Val} {vs : List V}, RVals K w xs vs → RVals K w1 xs vs
  | [], _, q => q
  | _ :: _, _, ⟨y, ys, e, q1, q2⟩ => ⟨y, ys, e, RVal.le r l q1, RVals.le r l q2⟩
end

/-- a smaller P -/
def Rw.withP (w : Rw) (P : Addr → Prop) : Rw := { w with P := P }
theorem STup.antiP {P : Addr → Prop} (hp : ∀ b, P b → w.P b) {xs : List V} (q : STup K w a xs) : STup K (w.withP P) a xs := by
  rcases q with ⟨q, p⟩ | q
  · exact .inl ⟨q, fun z => p (hp _ z)⟩
  · exact .inr q
theorem SLst.antiP {P : Addr → Prop} (hp : ∀ b, P b → w.P b) {xs : List V} (q : SLst K w a xs) : SLst K (w.withP P) a xs := by
  rcases q with ⟨q, p⟩ | q
  · exact .inl ⟨q, fun z => p (hp _ z)⟩
  · exact .inr q
mutual
theorem RVal.antiP {P : Addr → Prop} (hp : ∀ b, P b → w.P b) : ∀ {x : Val} {v : V}, RVal K w x v → RVal K (w.withP P) x v
  | .none, _, q => q
  | .bool _, _, q => q
  | .int _, _, q => q
  | .str _, _, q => q
  | .tup _, _, ⟨a, xs, e, s, q⟩ => ⟨a, xs, e, s.antiP hp, RVals.antiP hp q⟩
  | .ro _, _, ⟨a, xs, e, s, q⟩ => ⟨a, xs, e, ⟨s.1, fun z => s.2 (hp _ z)⟩, RVals.antiP hp q⟩
  | .scr _, _, ⟨a, xs, e, s, q⟩ => ⟨a, xs, e, s.antiP hp, RVals.antiP hp q⟩
  | .obj k, _, q => q
  | .err _ _ _, _, ⟨e, ys, s, q⟩ => ⟨e, ys, fun y t z => ⟨(s y t z).1, fun p => (s y t z).2 (hp _ p)⟩, RVals.antiP hp q⟩
theorem RVals.antiP {P : Addr → Prop} (hp : ∀ b, P b → w.P b) : ∀ {xs : List Val} {vs : List V}, RVals K w xs vs → RVals K (w.withP P) xs vs
  | [], _, q => q
  | _ :: _, _, ⟨y, ys, e, q1, q2⟩ => ⟨y, ys, e, RVal.antiP hp q1, RVals.antiP hp q2⟩
end
theorem RVals.length : ∀ {xs : List Val} {vs : List V}, RVals K w xs vs → xs.length = vs.length
  | [], _, q => by
    have e : _ = [] := q
    rw [e]
    rfl
  | _ :: _, _, ⟨y, ys, e, _, q2⟩ => by
    rw [e, List.length_cons, List.length_cons, RVals.length q2]
theorem RVals.get : ∀ {xs : List Val} {vs : List V} {i : Nat} {x : Val}, RVals K w xs vs → xs[i]? = some x → ∃ v, vs[i]? = some v ∧ RVal K w x v
  | [], _, _, _, _, e => by simp at e
  | x :: xs, _, 0, _, ⟨y, ys, e, q1, q2⟩, e2 => by
    subst e
    have e2 : some x = some _ := e2
    cases e2
    exact ⟨y, rfl, q1⟩
  | x :: xs, _, i + 1, _, ⟨y, ys, e, q1, q2⟩, e2 => by
    subst e
    obtain ⟨v, h1, h2⟩ := RVals.get (i := i) q2 (by simpa using e2)
    exact ⟨v, by simpa using h1, h2⟩
theorem RVals.get' : ∀ {xs : List Val} {vs : List V} {i : Nat} {v : V}, RVals K w xs vs → vs[i]? = some v → ∃ x, xs[i]? = some x ∧ RVal K w x v
  | [], _, _, _, q, e => by
    have e1 : _ = [] := q
    subst e1
    simp at e
  | x :: xs, _, 0, _, ⟨y, ys, e, q1, q2⟩, e2 => by
    subst e
    have e2 : some y = some _ := e2
    cases e2
    exact ⟨x, rfl, q1⟩
  | x :: xs, _, i + 1, _, ⟨y, ys, e, q1, q2⟩, e2 => by
    subst e
    obtain ⟨v, h1, h2⟩ := RVals.get' (i := i) q2 (by simpa using e2)
    exact ⟨v, by simpa using h1, h2⟩
theorem RVals.append : ∀ {xs ys : List Val} {vs us : List V}, RVals K w xs vs → RVals K w ys us → RVals K w (xs ++ ys) (vs ++ us)
  | [], _, _, _, q, q' => by
    have e : _ = [] := q
    subst e
    exact q'
  | _ :: _, _, _, _, ⟨y, r, e, q1, q2⟩, q' => by
    subst e
    exact ⟨y, r ++ _, rfl, q1, RVals.append q2 q'⟩
theorem RVals.set {x : Val} {v : V} (q : RVal K w x v) : ∀ {xs : List Val} {vs : List V} (i : Nat), RVals K w xs vs → RVals K w (xs.set i x) (vs.set i v)
  | [], _, _, e => by
    have e1 : _ = [] := e
    subst e1
    exact rfl
  | _ :: _, _, 0, ⟨y, r, e, q1, q2⟩ => by
    subst e
    exact ⟨v, r, rfl, q, q2⟩
  | _ :: _, _, i + 1, ⟨y, r, e, q1, q2⟩ => by
    subst e
    exact ⟨y, r.set i v, rfl, q1, RVals.set q i q2⟩
theorem RVals.take : ∀ {xs : List Val} {vs : List V} (n : Nat), RVals K w xs vs → RVals K w (xs.take n) (vs.take n)
  | xs, vs, 0, _ => by rw [List.take_zero, List.take_zero]; rfl
  | [], _, n + 1, e => by
    have e1 : _ = [] := e
    subst e1
    exact rfl
  | _ :: _, _, n + 1, ⟨y, r, e, q1, q2⟩ => by
    subst e
    exact ⟨y, r.take n, rfl, q1, RVals.take n q2⟩
theorem RVals.drop : ∀ {xs : List Val} {vs : List V} (n : Nat), RVals K w xs vs → RVals K w (xs.drop n) (vs.drop n)
  | xs, vs, 0, q => by rw [List.drop_zero, List.drop_zero]; exact q
  | [], _, n + 1, e => by
    have e1 : _ = [] := e
    subst e1
    exact rfl
  | _ :: _, _, n + 1, ⟨y, r, e, q1, q2⟩ => by
    subst e
    exact RVals.drop n q2
theorem RVals.flatten_rep {xs : List Val} {vs : List V} (q : RVals K w xs vs) : ∀ k : Nat, RVals K w (List.replicate k xs).flatten (List.replicate k vs).flatten
  | 0 => rfl
  | k + 1 => by
    rw [List.replicate_succ, List.flatten_cons, List.replicate_succ, List.flatten_cons]
    exact q.append (RVals.flatten_rep q k)
theorem RVals.reverse : ∀ {xs : List Val} {vs : List V}, RVals K w xs vs → RVals K w xs.reverse vs.reverse
  | [], _, e => by
    have e1 : _ = [] := e
    subst e1
    exact rfl
  | x :: xs, _, ⟨y, r, e, q1, q2⟩ => by
    subst e
    rw [List.reverse_cons, List.reverse_cons]
    exact (RVals.reverse q2).append ⟨y, [], rfl, q1, rfl⟩
theorem RVals.one {x : Val} {v : V} (q : RVal K w x v) : RVals K w [x] [v] := ⟨v, [], rfl, q, rfl⟩
theorem RFs.le (r : RHp K mg w h) (l : Le w w1) : ∀ {fs : List (Str × Val)} {gs : List (Str × V)}, RFs K w fs gs → RFs K w1 fs gs
  | [], _, q => q
  | (_, _) :: _, _, ⟨y, g, e, q1, q2⟩ => ⟨y, g, e, q1.le r l, RFs.le r l q2⟩
theorem RKs.le (r : RHp K mg w h) (l : Le w w1) : ∀ {fs : List (L2.Key × Val)} {gs : List (L2.Key × V)}, RKs K w fs gs → RKs K w1 fs gs
  | [], _, q => q
  | (_, _) :: _, _, ⟨y, g, e, q1, q2⟩ => ⟨y, g, e, q1.le r l, RKs.le r l q2⟩
theorem RFs.antiP {P : Addr → Prop} (hp : ∀ b, P b → w.P b) : ∀ {fs : List (Str × Val)} {gs : List (Str × V)}, RFs K w fs gs → RFs K (w.withP P) fs gs
  | [], _, q => q
  | (_, _) :: _, _, ⟨y, g, e, q1, q2⟩ => ⟨y, g, e, q1.antiP hp, RFs.antiP hp q2⟩
theorem RKs.antiP {P : Addr → Prop} (hp : ∀ b, P b → w.P b) : ∀ {fs : List (L2.Key × Val)} {gs : List (L2.Key × V)}, RKs K w fs gs → RKs K (w.withP P) fs gs
  | [], _, q => q
  | (_, _) :: _, _, ⟨y, g, e, q1, q2⟩ => ⟨y, g, e, q1.antiP hp, RKs.antiP hp q2⟩
theorem RFs.look : ∀ {fs : List (Str × Val)} {gs : List (Str × V)} {f : Str} {x : Val}, RFs K w fs gs → fs.lookup f = some x → ∃ v, gs.lookup f = some v ∧ RVal K w x v
  | [], _, _, _, _, e => by simp at e
  | (g, y) :: fs, _, f, x, ⟨v, r, e, q1, q2⟩, e2 => by
    subst e
    rw [List.lookup_cons] at e2 ⊢
    cases hb : f == g with
    | true =>
      rw [hb] at e2
      have e2 : some y = some x := e2
      cases e2
      exact ⟨v, rfl, q1⟩
    | false =>
      rw [hb] at e2
      exact RFs.look q2 e2
theorem RFs.length : ∀ {fs : List (Str × Val)} {gs : List (Str × V)}, RFs K w fs gs → fs.length = gs.length
  | [], _, q => by
    have e : _ = [] := q
    rw [e]
    rfl
  | (_, _) :: _, _, ⟨y, ys, e, _, q2⟩ => by
    rw [e, List.length_cons, List.length_cons, RFs.length q2]
/-- an object whose own entry stays -/
theorem RObj.le (r : RHp K mg w h) (l : Le w w1) {o : HObj} (he : w1.H a = w.H a) (q : RObj K mg w a o) : RObj K mg w1 a o := by
  cases o with
  | lst vs =>
    obtain ⟨xs, e, q⟩ := q
    exact ⟨xs, he.trans e, q.le r l⟩
  | ins c fs =>
    obtain ⟨C, dx, gs, e, c, q⟩ := q
    exact ⟨C, dx, gs, he.trans e, c, q.le r l⟩
  | dct kvs =>
    obtain ⟨gs, e, q⟩ := q
    exact ⟨gs, he.trans e, q.le r l⟩
theorem RObj.antiP {P : Addr → Prop} (hp : ∀ b, P b → w.P b) {o : HObj} (q : RObj K mg w a o) : RObj K mg (w.withP P) a o := by
  cases o with
  | lst vs =>
    obtain ⟨xs, e, q⟩ := q
    exact ⟨xs, e, q.antiP hp⟩
  | ins c fs =>
    obtain ⟨C, dx, gs, e, c, q⟩ := q
    exact ⟨C, dx, gs, e, c, q.antiP hp⟩
  | dct kvs =>
    obtain ⟨gs, e, q⟩ := q
    exact ⟨gs, e, q.antiP hp⟩
theorem RObj.some {o : HObj} (q : RObj K mg w a o) : ∃ u, w.H a = some u := by
  cases o with
  | lst vs => obtain ⟨xs, e, _⟩ := q; exact ⟨_, e⟩
  | ins c fs => obtain ⟨C, dx, gs, e, _⟩ := q; exact ⟨_, e⟩
  | dct kvs => obtain ⟨gs, e, _⟩ := q; exact ⟨_, e⟩

/-! ### slots, results -/
def RSlot (K : Frag) (w : Rw) (ow : Addr → Prop) : RV → V → Prop
  | .v x, v => RVal K w x v
  | .own xs, v => ∃ a ys, v = .ref a ∧ w.H a = some (.lst ys) ∧ RVals K w xs ys ∧ w.P a ∧ w.out a
  | .view xs, v => ∃ a ys, v = .ref a ∧ (SVw w a ys ∧ ¬ ow a) ∧ RVals K w xs ys
/-- an expression's result; w0: the world ahead of it -/
def RRes (K : Frag) (w0 w : Rw) : RV → V → Prop
  | .v x, v => RVal K w x v
  | .own xs, v => ∃ a ys, v = .ref a ∧ w0.H a = none ∧ w.H a = some (.lst ys) ∧ RVals K w xs ys ∧ w.P a ∧ w.out a
  | .view xs, v => ∃ a ys, v = .ref a ∧ SVw w a ys ∧ RVals K w xs ys
def owns (r : Env) (σ : L2.St) (a : Addr) : Prop := ∃ (i : Nat) (xs : List Val), r[i]? = some (some (.own xs)) ∧ σ[i]? = some (some (.ref a))

structure Rel (K : Frag) (mg : Mg) (w : Rw) (r : Env) (h : Heap) (σ : L2.St) : Prop where
  hp : RHp K mg w h
  len : σ.length = r.length
  sl : ∀ (i : Nat) (x : RV), r[i]? = some (some x) → ∃ v, σ[i]? = some (some v) ∧ RSlot K w (owns r σ) x v
  own1 : ∀ (i j : Nat) (xs ys : List Val) (a : Addr), r[i]? = some (some (.own xs)) → r[j]? = some (some (.own ys)) → σ[i]? = some (some (.ref a)) → σ[j]? = some (some (.ref a)) → i = j

theorem RSlot.le {ow : Addr → Prop} (r : RHp K mg w h) (l : Le w w1) {x : RV} {v : V} (q : RSlot K w ow x v) : RSlot K w1 ow x v := by
  cases x with
  | v x => exact RVal.le r l q
  | own xs =>
    obtain ⟨a, ys, e, e1, q, p, u⟩ := q
    exact ⟨a, ys, e, l.keep a _ e1 u, q.le r l, (l.P a _ e1).mpr p, l.out e1 u⟩
  | view xs =>
    obtain ⟨a, ys, e, s, q⟩ := q
    exact ⟨a, ys, e, ⟨s.1.le l, s.2⟩, q.le r l⟩
theorem RSlot.antiP {ow : Addr → Prop} {P : Addr → Prop} (hp : ∀ b, P b → w.P b) {x : RV} {v : V} (q : RSlot K w ow x v) (ho : ∀ a xs, x = .own xs → v = .ref a → P a) : RSlot K (w.withP P) ow x v := by
  cases x with
  | v x => exact RVal.antiP hp q
  | own xs =>
    obtain ⟨a, ys, e, e1, q, p, u⟩ := q
    exact ⟨a, ys, e, e1, q.antiP hp, ho a xs rfl e, u⟩
  | view xs =>
    obtain ⟨a, ys, e, s, q⟩ := q
    exact ⟨a, ys, e, s, q.antiP hp⟩
theorem RRes.le {w0 : Rw} (r : RHp K mg w h) (l : Le w w1) {x : RV} {v : V} (q : RRes K w0 w x v) : RRes K w0 w1 x v := by
  cases x with
  | v x => exact RVal.le r l q
  | own xs =>
    obtain ⟨a, ys, e, e0, e1, q, p, u⟩ := q
    exact ⟨a, ys, e, e0, l.keep a _ e1 u, q.le r l, (l.P a _ e1).mpr p, l.out e1 u⟩
  | view xs =>
    obtain ⟨a, ys, e, s, q⟩ := q
    exact ⟨a, ys, e, s.le l, q.le r l⟩
theorem RRes.back {w0 w00 : Rw} (l : Le w00 w0) {x : RV} {v : V} (q : RRes K w0 w x v) : RRes K w00 w x v := by
  cases x with
  | v x => exact q
  | own xs =>
    obtain ⟨a, ys, e, e0, e1, q, p, u⟩ := q
    exact ⟨a, ys, e, l.fresh e0, e1, q, p, u⟩
  | view xs => exact q
end
end SM

/-! SMExp: what our expressions say, holds of the program's. -/
namespace SM
open PySem (Str Expr Pos Operator CmpOp)
open L2 hiding St
section
variable {K : Frag} {mg : Mg} {w w1 w2 : Rw} {h h' : Heap} {a : Addr}
theorem Rel.le {r : Env} {σ : L2.St} (R : Rel K mg w r h σ) (l : Le w w1) (q : RHp K mg w1 h') : Rel K mg w1 r h' σ := by
  refine ⟨q, R.len, fun i x e => ?_, R.own1⟩
  obtain ⟨v, e1, s⟩ := R.sl i x e
  exact ⟨v, e1, s.le R.hp l⟩

/-- what is behind an expression -/
def RExn (K : Frag) (mg : Mg) (w : Rw) (e : Exn) (cls : PySem.Value) (d : Option Addr) : Prop :=
  ∃ C, cls = .ref C ∧ mg e.cls = some (.ref C) ∧ match e.args with
    | [] => d = none
    | x :: _ => ∃ dx v, d = some dx ∧ w.H dx = some (.xd [("at", v)]) ∧ ¬ w.P dx ∧ RVal K w x v
def EK (K : Frag) (mg : Mg) (W : WX) (w : Rw) (σ : L2.St) (Q : VK) : EO RV → Prop
  | .ok x h => ∀ w' v, Le w w' → RHp K mg w' h → RRes K w w' x v → Q v w'.H
  | .ex e h => ∀ w' cls d, Le w w' → RHp K mg w' h → RExn K mg w' e cls d → W cls d σ w'.H
  | .no => False
def TK (K : Frag) (mg : Mg) (W : WX) (w : Rw) (σ : L2.St) (Q : Bool → Hp → Prop) : EO Bool → Prop
  | .ok b h => ∀ w', Le w w' → RHp K mg w' h → Q b w'.H
  | .ex e h => ∀ w' cls d, Le w w' → RHp K mg w' h → RExn K mg w' e cls d → W cls d σ w'.H
  | .no => False
def RArgs (K : Frag) (w : Rw) : List RV → List V → Prop
  | [], vs => vs = []
  | x :: xs, vs => ∃ v r, vs = v :: r ∧ RRes K w w x v ∧ RArgs K w xs r
def AK (K : Frag) (mg : Mg) (W : WX) (w : Rw) (σ : L2.St) (Q : List V → Hp → Prop) : EO (List RV) → Prop
  | .ok xs h => ∀ w' vs, Le w w' → RHp K mg w' h → RArgs K w' xs vs → Q vs w'.H
  | .ex e h => ∀ w' cls d, Le w w' → RHp K mg w' h → RExn K mg w' e cls d → W cls d σ w'.H
  | .no => False
def tE (K : Frag) (mg : Mg) (W : WX) (f : E) : TE := fun σ H Q => ∃ w r h, w.H = H ∧ Rel K mg w r h σ ∧ EK K mg W w σ Q (f r h)
def tT (K : Frag) (mg : Mg) (W : WX) (f : T) : TT := fun σ H Q => ∃ w r h, w.H = H ∧ Rel K mg w r h σ ∧ TK K mg W w σ Q (f r h)
def tA (K : Frag) (mg : Mg) (W : WX) (f : A) : TA := fun σ H Q => ∃ w r h, w.H = H ∧ Rel K mg w r h σ ∧ AK K mg W w σ Q (f r h)

theorem EK.le {W : WX} {σ : L2.St} {Q : VK} (l : Le w w1) : ∀ {o : EO RV}, EK K mg W w σ Q o → EK K mg W w1 σ Q o
  | .ok x h, k => fun w' v l' hp q => k w' v (l.trans l') hp (q.back l)
  | .ex e h, k => fun w' cls d l' hp q => k w' cls d (l.trans l') hp q
  | .no, k => k
theorem TK.le {W : WX} {σ : L2.St} {Q : Bool → Hp → Prop} (l : Le w w1) : ∀ {o : EO Bool}, TK K mg W w σ Q o → TK K mg W w1 σ Q o
  | .ok x h, k => fun w' l' hp => k w' (l.trans l') hp
  | .ex e h, k => fun w' cls d l' hp q => k w' cls d (l.trans l') hp q
  | .no, k => k
theorem AK.le {W : WX} {σ : L2.St} {Q : List V → Hp → Prop} (l : Le w w1) : ∀ {o : EO (List RV)}, AK K mg W w σ Q o → AK K mg W w1 σ Q o
  | .ok x h, k => fun w' v l' hp q => k w' v (l.trans l') hp q
  | .ex e h, k => fun w' cls d l' hp q => k w' cls d (l.trans l') hp q
  | .no, k => k
/-- an expression, then something of a value, a test, arguments -/
theorem EK.cut {W : WX} {σ : L2.St} {Q Q' : VK} {f : RV → Heap → EO RV} (c : ∀ x h1 w1 v1, Le w w1 → RHp K mg w1 h1 → RRes K w w1 x v1 → EK K mg W w1 σ Q (f x h1) → Q' v1 w1.H) :
    ∀ {o : EO RV}, EK K mg W w σ Q (o.bind f) → EK K mg W w σ Q' o
  | .ok x h, k => fun w' v l hp q => c x h w' v l hp q (EK.le l (o := f x h) k)
  | .ex e h, k => k
  | .no, k => k
theorem EK.cutT {W : WX} {σ : L2.St} {Q : Bool → Hp → Prop} {Q' : VK} {f : RV → Heap → EO Bool} (c : ∀ x h1 w1 v1, Le w w1 → RHp K mg w1 h1 → RRes K w w1 x v1 → TK K mg W w1 σ Q (f x h1) → Q' v1 w1.H) :
    ∀ {o : EO RV}, TK K mg W w σ Q (o.bind f) → EK K mg W w σ Q' o
  | .ok x h, k => fun w' v l hp q => c x h w' v l hp q (TK.le l (o := f x h) k)
  | .ex e h, k => k
  | .no, k => k
theorem EK.cutA {W : WX} {σ : L2.St} {Q : List V → Hp → Prop} {Q' : VK} {f : RV → Heap → EO (List RV)} (c : ∀ x h1 w1 v1, Le w w1 → RHp K mg w1 h1 → RRes K w w1 x v1 → AK K mg W w1 σ Q (f x h1) → Q' v1 w1.H) :
    ∀ {o : EO RV}, AK K mg W w σ Q (o.bind f) → EK K mg W w σ Q' o
  | .ok x h, k => fun w' v l hp q => c x h w' v l hp q (AK.le l (o := f x h) k)
  | .ex e h, k => k
  | .no, k => k
theorem TK.cut {W : WX} {σ : L2.St} {Q : VK} {Q' : Bool → Hp → Prop} {f : Bool → Heap → EO RV} (c : ∀ x h1 w1, Le w w1 → RHp K mg w1 h1 → EK K mg W w1 σ Q (f x h1) → Q' x w1.H) :
    ∀ {o : EO Bool}, EK K mg W w σ Q (o.bind f) → TK K mg W w σ Q' o
  | .ok x h, k => fun w' l hp => c x h w' l hp (EK.le l (o := f x h) k)
  | .ex e h, k => k
  | .no, k => k
theorem TK.cutT {W : WX} {σ : L2.St} {Q Q' : Bool → Hp → Prop} {f : Bool → Heap → EO Bool} (c : ∀ x h1 w1, Le w w1 → RHp K mg w1 h1 → TK K mg W w1 σ Q (f x h1) → Q' x w1.H) :
    ∀ {o : EO Bool}, TK K mg W w σ Q (o.bind f) → TK K mg W w σ Q' o
  | .ok x h, k => fun w' l hp => c x h w' l hp (TK.le l (o := f x h) k)
  | .ex e h, k => k
  | .no, k => k
theorem AK.cut {W : WX} {σ : L2.St} {Q : VK} {Q' : List V → Hp → Prop} {f : List RV → Heap → EO RV} (c : ∀ x h1 w1 v1, Le w w1 → RHp K mg w1 h1 → RArgs K w1 x v1 → EK K mg W w1 σ Q (f x h1) → Q' v1 w1.H) :
    ∀ {o : EO (List RV)}, EK K mg W w σ Q (o.bind f) → AK K mg W w σ Q' o
  | .ok x h, k => fun w' v l hp q => c x h w' v l hp q (EK.le l (o := f x h) k)
  | .ex e h, k => k
  | .no, k => k
theorem AK.cutA {W : WX} {σ : L2.St} {Q Q' : List V → Hp → Prop} {f : List RV → Heap → EO (List RV)} (c : ∀ x h1 w1 v1, Le w w1 → RHp K mg w1 h1 → RArgs K w1 x v1 → AK K mg W w1 σ Q (f x h1) → Q' v1 w1.H) :
    ∀ {o : EO (List RV)}, AK K mg W w σ Q (o.bind f) → AK K mg W w σ Q' o
  | .ok x h, k => fun w' v l hp q => c x h w' v l hp q (AK.le l (o := f x h) k)
  | .ex e h, k => k
  | .no, k => k

theorem EK.cut0 {W : WX} {σ : L2.St} {Q Q' : VK} {f : RV → Heap → EO RV} (c : ∀ x h1 w1 v1, Le w w1 → RHp K mg w1 h1 → RRes K w w1 x v1 → EK K mg W w σ Q (f x h1) → Q' v1 w1.H) :
    ∀ {o : EO RV}, EK K mg W w σ Q (o.bind f) → EK K mg W w σ Q' o
  | .ok x h, k => fun w' v l hp q => c x h w' v l hp q k
  | .ex e h, k => k
  | .no, k => k
theorem EK.cutA0 {W : WX} {σ : L2.St} {Q : List V → Hp → Prop} {Q' : VK} {f : RV → Heap → EO (List RV)} (c : ∀ x h1 w1 v1, Le w w1 → RHp K mg w1 h1 → RRes K w w1 x v1 → AK K mg W w σ Q (f x h1) → Q' v1 w1.H) :
    ∀ {o : EO RV}, AK K mg W w σ Q (o.bind f) → EK K mg W w σ Q' o
  | .ok x h, k => fun w' v l hp q => c x h w' v l hp q k
  | .ex e h, k => k
  | .no, k => k

/-! ### new things -/
/-- something new that no value is to lie at (a list of one's own), or a tuple -/
def Rw.newL (w : Rw) (p : Addr) (xs : List V) : Rw := ⟨w.io, fun b => b = p ∨ w.P b, w.n, upd w.H p (.lst xs)⟩
def Rw.newT (w : Rw) (p : Addr) (xs : List V) : Rw := ⟨w.io, w.P, w.n, upd w.H p (.tup xs)⟩
theorem RHp.tracked (R : RHp K mg w h) {k : Nat} (hk : k < w.n) : ∃ o, w.H (w.io k) = some o := R.ph _ (R.inP k hk)
theorem Le.newL {p : Addr} (hp : w.H p = none) {xs : List V} (R : RHp K mg w h) : Le w (w.newL p xs) where
  n := Nat.le_refl _
  io := fun _ _ => rfl
  keep := fun b o e _ => (upd_ne (ne_of_none e hp)).trans e
  there := fun b o e => ⟨o, (upd_ne (ne_of_none e hp)).trans e⟩
  P := fun b o e => ⟨fun z => z.elim (fun z => absurd z (ne_of_none e hp)) id, .inr⟩
  new := fun k h1 h2 => absurd h2 (Nat.not_lt.mpr h1)
theorem Le.newT {p : Addr} (hp : w.H p = none) {xs : List V} : Le w (w.newT p xs) where
  n := Nat.le_refl _
  io := fun _ _ => rfl
  keep := fun b o e _ => (upd_ne (ne_of_none e hp)).trans e
  there := fun b o e => ⟨o, (upd_ne (ne_of_none e hp)).trans e⟩
  P := fun b o e => Iff.rfl
  new := fun k h1 h2 => absurd h2 (Nat.not_lt.mpr h1)
theorem RHp.laid (R : RHp K mg w h) (l : Le w w1) (hn : w1.n = w.n) (hi : w1.io = w.io) (he : ∀ b o, w.H b = some o → w1.H b = some o) (hP : ∀ b, w1.P b → w.P b ∨ ∃ o, w1.H b = some o) : RHp K mg w1 h where
  len := R.len.trans hn.symm
  obj := fun k o e => by
    have q := R.obj k o e
    obtain ⟨u, eu⟩ := q.some
    rw [hi]
    exact q.le R l ((he _ _ eu).trans eu.symm)
  inj := fun j k h1 h2 e => by
    rw [hn] at h1 h2
    rw [hi] at e
    exact R.inj j k h1 h2 e
  inP := fun k hk => by
    rw [hn] at hk
    rw [hi]
    obtain ⟨o, e⟩ := R.tracked hk
    exact (l.P _ o e).mpr (R.inP k hk)
  ph := fun b hb => by
    rcases hP b hb with q | q
    · obtain ⟨o, e⟩ := R.ph b q
      exact ⟨o, he b o e⟩
    · exact q
theorem RHp.newL (R : RHp K mg w h) {p : Addr} (hp : w.H p = none) {xs : List V} : RHp K mg (w.newL p xs) h :=
  R.laid (Le.newL hp R) rfl rfl (fun b o e => (upd_ne (ne_of_none e hp)).trans e) fun b hb => hb.elim (fun z => .inr ⟨.lst xs, by rw [z]; exact upd_same⟩) .inl
theorem RHp.newT (R : RHp K mg w h) {p : Addr} (hp : w.H p = none) {xs : List V} : RHp K mg (w.newT p xs) h :=
  R.laid (Le.newT hp) rfl rfl (fun b o e => (upd_ne (ne_of_none e hp)).trans e) fun b hb => .inl hb
theorem RHp.outN (R : RHp K mg w h) {p : Addr} (hp : w.H p = none) : w.out p := fun k hk z => by
  obtain ⟨o, e⟩ := R.tracked hk
  rw [z, hp] at e
  cases e
theorem RHp.notP (R : RHp K mg w h) {p : Addr} (hp : w.H p = none) : ¬ w.P p := fun z => by
  obtain ⟨o, e⟩ := R.ph p z
  rw [hp] at e
  cases e
/-- a new list -/
theorem res_newL (R : RHp K mg w h) {p : Addr} (hp : w.H p = none) {xs : List Val} {vs : List V} (q : RVals K w xs vs) : RRes K w (w.newL p vs) (.own xs) (.ref p) :=
  ⟨p, vs, rfl, hp, upd_same, q.le R (Le.newL hp R), .inl rfl, R.outN hp⟩
theorem res_newT (R : RHp K mg w h) {p : Addr} (hp : w.H p = none) {xs : List Val} {vs : List V} (q : RVals K w xs vs) : RRes K w (w.newT p vs) (.v (.tup xs)) (.ref p) :=
  ⟨p, vs, rfl, .inl ⟨.inl upd_same, R.notP hp⟩, q.le R (Le.newT hp)⟩

/-! ### reading a sequence -/
theorem SLst.sql {xs : List V} (q : SLst K w a xs) : SqL K w.H a xs := q.elim (fun z => .inl z.1) .inr
theorem STup.sqt {xs : List V} (q : STup K w a xs) : SqT K w.H a xs := q.elim (fun z => .inl z.1) .inr
theorem SVw.sql {xs : List V} (q : SVw w a xs) : SqL K w.H a xs := .of q.1
theorem SRo.sql {xs : List V} (q : SRo w a xs) : SqL K w.H a xs := .of q.1
theorem look_tup {w0 : Rw} (R : RHp K mg w h) {x : RV} {v : V} {xs : List Val} (q : RRes K w0 w x v) (e : look h x = some (true, xs)) : ∃ a ys, v = .ref a ∧ SqT K w.H a ys ∧ RVals K w xs ys ∧ x = .v (.tup xs) := by
  cases x with
  | own _ => cases e
  | view _ => cases e
  | v x =>
    cases x with
    | tup vs =>
      have e1 : vs = xs := by
        have e : some (true, vs) = some (true, xs) := e
        cases e
        rfl
      subst e1
      obtain ⟨a, ys, e, s, q⟩ := q
      exact ⟨a, ys, e, s.sqt, q, rfl⟩
    | obj n =>
      have e : (match h[n]? with
        | some (.lst vs) => some (false, vs)
        | _ => none) = some (true, xs) := e
      split at e <;> cases e
    | _ => cases e
theorem look_lst {w0 : Rw} (R : RHp K mg w h) {x : RV} {v : V} {xs : List Val} (q : RRes K w0 w x v) (e : look h x = some (false, xs)) : ∃ a ys, v = .ref a ∧ SqL K w.H a ys ∧ RVals K w xs ys := by
  cases x with
  | own vs =>
    have e1 : vs = xs := by
      have e : some (false, vs) = some (false, xs) := e
      cases e
      rfl
    subst e1
    obtain ⟨a, ys, e, _, e1, q, _⟩ := q
    exact ⟨a, ys, e, .of e1, q⟩
  | view vs =>
    have e1 : vs = xs := by
      have e : some (false, vs) = some (false, xs) := e
      cases e
      rfl
    subst e1
    obtain ⟨a, ys, e, s, q⟩ := q
    exact ⟨a, ys, e, s.sql, q⟩
  | v x =>
    cases x with
    | ro vs =>
      have e1 : vs = xs := by
        have e : some (false, vs) = some (false, xs) := e
        cases e
        rfl
      subst e1
      obtain ⟨a, ys, e, s, q⟩ := q
      exact ⟨a, ys, e, s.sql, q⟩
    | scr vs =>
      have e1 : vs = xs := by
        have e : some (false, vs) = some (false, xs) := e
        cases e
        rfl
      subst e1
      obtain ⟨a, ys, e, s, q⟩ := q
      exact ⟨a, ys, e, s.sql, q⟩
    | obj n =>
      have e : (match h[n]? with
        | some (.lst vs) => some (false, vs)
        | _ => none) = some (false, xs) := e
      split at e
      · rename_i vs hn
        cases e
        obtain ⟨hk, ev⟩ := q
        obtain ⟨ys, e1, q1⟩ := R.obj n _ hn
        exact ⟨_, ys, ev, .of e1, q1⟩
      · cases e
    | _ => cases e
end

/-! ### the rules -/
section
variable {X : Cx} {W : WX} {pos : Pos}
abbrev PEs (X : Cx) (W : WX) (e : Expr) (f : E) : Prop := PE X e (tE X.K X.mg W f)
abbrev PTs' (X : Cx) (W : WX) (e : Expr) (f : T) : Prop := PT X e (tT X.K X.mg W f)
abbrev PAs (X : Cx) (W : WX) (es : List Expr) (f : A) : Prop := PA X es (tA X.K X.mg W f)
theorem PE.weak {e : Expr} {t t' : TE} (p : PE X e t) (c : ∀ σ H Q, t' σ H Q → t σ H Q) : PE X e t' := ⟨fun pins s σ H Q I q => p.run pins s σ H Q I (c σ H Q q)⟩
theorem PT.weak {e : Expr} {t t' : TT} (p : PT X e t) (c : ∀ σ H Q, t' σ H Q → t σ H Q) : PT X e t' := ⟨fun pins s σ H Q I q => p.run pins s σ H Q I (c σ H Q q)⟩
theorem PA.weak {e : List Expr} {t t' : TA} (p : PA X e t) (c : ∀ σ H Q, t' σ H Q → t σ H Q) : PA X e t' := ⟨fun pos pins s σ H Q I q => p.run pos pins s σ H Q I (c σ H Q q)⟩
theorem PW.weak {e : Expr} {t t' : TT} (p : PW X e t) (c : ∀ σ H Q, t' σ H Q → t σ H Q) : PW X e t' := ⟨fun wh pins s σ H Q I q => p.run wh pins s σ H Q I (c σ H Q q)⟩

theorem s_int {i : Int} {j : Nat} : PEs X W (.Constant (.int i) j pos) (eC (.int i)) := PE.weak pe_int fun σ H Q ⟨w, r, h, e, R, k⟩ => by
  subst e
  exact k w _ (Le.refl w) R.hp rfl
theorem s_bl {b : Bool} {j : Nat} : PEs X W (.Constant (.bool b) j pos) (eC (.bool b)) := PE.weak pe_bl fun σ H Q ⟨w, r, h, e, R, k⟩ => by
  subst e
  exact k w _ (Le.refl w) R.hp rfl
theorem s_non {j : Nat} : PEs X W (.Constant .none j pos) (eC .none) := PE.weak pe_non fun σ H Q ⟨w, r, h, e, R, k⟩ => by
  subst e
  exact k w _ (Le.refl w) R.hp rfl
theorem s_str {x : Str} {j : Nat} : PEs X W (.Constant (.str x) j pos) (eC (.str x)) := PE.weak pe_str fun σ H Q ⟨w, r, h, e, R, k⟩ => by
  subst e
  exact k w _ (Le.refl w) R.hp rfl
theorem rdSlot_res {K : Frag} {w : Rw} {ow : Addr → Prop} {x : RV} {v : V} (q : RSlot K w ow x v) : RRes K w w (rdSlot x) v := by
  cases x with
  | v x => exact q
  | own xs =>
    obtain ⟨a, ys, e, e1, q, p, u⟩ := q
    exact ⟨a, ys, e, ⟨e1, u⟩, q⟩
  | view xs =>
    obtain ⟨a, ys, e, s, q⟩ := q
    exact ⟨a, ys, e, s.1, q⟩
theorem s_var (i : Nat) {x : Str} (hN : X.N[i]? = some x := by rfl) (hv : Vis X.env.scope x := by first | exact Or.inl rfl | exact Or.inr (Or.inl rfl) | exact Or.inr (Or.inr rfl)) (hd : (x == ("__debug__" : Str)) = false := by decide)
    (hcd : (x == ("__classdict__" : Str)) = false := by decide) : PEs X W (.Name x pos) (eVar i) := PE.weak (pe_var hN hv hd hcd) fun σ H Q ⟨w, r, h, e, R, k⟩ => by
  subst e
  unfold eVar at k
  split at k
  · rename_i y hy
    obtain ⟨v, e1, s⟩ := R.sl i y hy
    exact ⟨v, e1, k w v (Le.refl w) R.hp (rdSlot_res s)⟩
  · exact k.elim

/-- an operation of two values: what it asks, from what ours says -/
def F2Ok (K : Frag) (mg : Mg) (f : F2) (r2 : R2) : Prop := ∀ (w w0 w1 : Rw) (h : Heap) (x y z : RV) (vx vy : V) (Q : VK), RHp K mg w h → RRes K w0 w x vx → RRes K w1 w y vy → f h x y = some z →
  (∀ w' v', Le w w' → RHp K mg w' h → RRes K w w' z v' → Q v' w'.H) → r2 vx vy w.H Q
def F1Ok (K : Frag) (mg : Mg) (f : F1) (r1 : V → Hp → VK → Prop) : Prop := ∀ (w w0 : Rw) (h : Heap) (x z : RV) (vx : V) (Q : VK), RHp K mg w h → RRes K w0 w x vx → f h x = some z →
  (∀ w' v', Le w w' → RHp K mg w' h → RRes K w w' z v' → Q v' w'.H) → r1 vx w.H Q
theorem opt_cut {K : Frag} {mg : Mg} {W : WX} {w : Rw} {h : Heap} {σ : L2.St} {Q : VK} {o : Option RV} (k : EK K mg W w σ Q (opt o h)) : ∃ z, o = some z ∧ ∀ w' v', Le w w' → RHp K mg w' h → RRes K w w' z v' → Q v' w'.H := by
  cases o with
  | none => exact k.elim
  | some z => exact ⟨z, rfl, k⟩
theorem e2_cut {K : Frag} {mg : Mg} {W : WX} {f : F2} {r2 : R2} {fa fb : E} (hf : F2Ok K mg f r2) : ∀ σ H Q, tE K mg W (e2 f fa fb) σ H Q → tOp r2 (tE K mg W fa) (tE K mg W fb) σ H Q := fun σ H Q ⟨w, r, h, e, R, k⟩ => by
  subst e
  refine ⟨w, r, h, rfl, R, EK.cut (fun x h1 w1 v1 l1 R1 q1 k1 => ?_) k⟩
  refine ⟨w1, r, h1, rfl, R.le l1 R1, EK.cut (fun y h2 w2 v2 l2 R2 q2 k2 => ?_) k1⟩
  obtain ⟨z, ez, kz⟩ := opt_cut k2
  exact hf w2 w w1 h2 x y z v1 v2 Q R2 (q1.le R1 l2) q2 ez kz
theorem e1_cut {K : Frag} {mg : Mg} {W : WX} {f : F1} {r1 : V → Hp → VK → Prop} {fa : E} (hf : F1Ok K mg f r1) : ∀ σ H Q, tE K mg W (e1 f fa) σ H Q → tUn r1 (tE K mg W fa) σ H Q := fun σ H Q ⟨w, r, h, e, R, k⟩ => by
  subst e
  refine ⟨w, r, h, rfl, R, EK.cut (fun x h1 w1 v1 l1 R1 q1 k1 => ?_) k⟩
  obtain ⟨z, ez, kz⟩ := opt_cut k1
  exact hf w1 w h1 x z v1 Q R1 q1 ez kz
variable {a b : Expr} {fa fb : E}
theorem s_op {op : Operator} {f : F2} {r2 : R2} (ho : OpR X (PySem.binaryOp op) r2) (hf : F2Ok X.K X.mg f r2) (ha : PEs X W a fa) (hb : PEs X W b fb) : PEs X W (.BinOp a op b pos) (e2 f fa fb) :=
  PE.weak (pe_op ho ha hb) (e2_cut hf)
theorem s_un {op : PySem.UnaryOp} {f : F1} {r1 : V → Hp → VK → Prop} (ho : UnR X (PySem.unaryOp op) r1) (hf : F1Ok X.K X.mg f r1) (ha : PEs X W a fa) : PEs X W (.UnaryOp op a pos) (e1 f fa) :=
  PE.weak (pe_un ho ha) (e1_cut hf)

/-! ### ints -/
theorem fI0_ok {K : Frag} {mg : Mg} {g : Int → Int → V} {g' : Int → Int → Val} (hg : ∀ i j w, RVal K w (g' i j) (g i j)) : F2Ok K mg (fI0 g') (rI0 g) := fun w w0 w1 h x y z vx vy Q R qx qy e k => by
  unfold fI0 at e
  split at e
  · rename_i i j
    cases e
    have e1 : vx = .int i := qx
    have e2 : vy = .int j := qy
    subst e1 e2
    exact ⟨i, j, rfl, rfl, k w _ (Le.refl w) R (hg i j w)⟩
  · cases e
theorem fI_ok {K : Frag} {mg : Mg} {C : Int → Int → Prop} [∀ i j, Decidable (C i j)] {g : Int → Int → V} {g' : Int → Int → Val} (hg : ∀ i j w, RVal K w (g' i j) (g i j)) : F2Ok K mg (fI C g') (rI C g) := fun w w0 w1 h x y z vx vy Q R qx qy e k => by
  unfold fI at e
  split at e
  · rename_i i j
    split at e
    · rename_i c
      cases e
      have e1 : vx = .int i := qx
      have e2 : vy = .int j := qy
      subst e1 e2
      exact ⟨i, j, rfl, rfl, c, k w _ (Le.refl w) R (hg i j w)⟩
    · cases e
  · cases e
theorem s_sub (ha : PEs X W a fa) (hb : PEs X W b fb) : PEs X W (.BinOp a .Sub b pos) (e2 fSub fa fb) := s_op op_sub (fI0_ok fun _ _ _ => rfl) ha hb
theorem s_and (ha : PEs X W a fa) (hb : PEs X W b fb) : PEs X W (.BinOp a .BitAnd b pos) (e2 fAnd fa fb) := s_op op_and (fI0_ok fun _ _ _ => rfl) ha hb
theorem s_or (ha : PEs X W a fa) (hb : PEs X W b fb) : PEs X W (.BinOp a .BitOr b pos) (e2 fOr fa fb) := s_op op_or (fI0_ok fun _ _ _ => rfl) ha hb
theorem s_xor (ha : PEs X W a fa) (hb : PEs X W b fb) : PEs X W (.BinOp a .BitXor b pos) (e2 fXor fa fb) := s_op op_xor (fI0_ok fun _ _ _ => rfl) ha hb
theorem s_shr (ha : PEs X W a fa) (hb : PEs X W b fb) : PEs X W (.BinOp a .RShift b pos) (e2 fShr fa fb) := s_op op_shr (fI_ok fun _ _ _ => rfl) ha hb
theorem s_shl (ha : PEs X W a fa) (hb : PEs X W b fb) : PEs X W (.BinOp a .LShift b pos) (e2 fShl fa fb) := s_op (r2 := rI (fun i j => 0 ≤ j ∧ (PySem.Builtin.Int.intBits i : Int) + j ≤ 2 ^ 27) fun i j => .int (i * 2 ^ j.toNat)) op_shlW (fI_ok (C := fun i j => 0 ≤ j ∧ (PySem.Builtin.Int.intBits i : Int) + j ≤ 2 ^ 27) fun _ _ _ => rfl) ha hb
theorem s_mod (ha : PEs X W a fa) (hb : PEs X W b fb) : PEs X W (.BinOp a .Mod b pos) (e2 fMod fa fb) := s_op op_mod (fI_ok fun _ _ _ => rfl) ha hb
theorem s_div (ha : PEs X W a fa) (hb : PEs X W b fb) : PEs X W (.BinOp a .FloorDiv b pos) (e2 fDiv fa fb) := s_op (r2 := rI (fun _ j => 0 < j ∧ j.natAbs.log2 < 9000) fun i j => .int (i / j)) op_fdivW (fI_ok (C := fun _ j => 0 < j ∧ j.natAbs.log2 < 9000) fun _ _ _ => rfl) ha hb
end
end SM

/-! SMExp2: further expressions. -/
namespace SM
open PySem (Str Expr Pos Operator CmpOp)
open L2 hiding St
section
variable {K : Frag} {mg : Mg} {w w0 w1 w2 : Rw} {h h' : Heap} {a : Addr}
theorem lookL_ok {x : RV} {v : V} {xs : List Val} (R : RHp K mg w h) (q : RRes K w0 w x v) (e : lookL h x = some xs) : ∃ a ys, v = .ref a ∧ w.H a = some (.lst ys) ∧ RVals K w xs ys := by
  cases x with
  | own vs =>
    have e1 : vs = xs := by
      have e : some vs = some xs := e
      cases e
      rfl
    subst e1
    obtain ⟨a, ys, e, _, e1, q, _⟩ := q
    exact ⟨a, ys, e, e1, q⟩
  | view vs =>
    have e1 : vs = xs := by
      have e : some vs = some xs := e
      cases e
      rfl
    subst e1
    obtain ⟨a, ys, e, s, q⟩ := q
    exact ⟨a, ys, e, s.1, q⟩
  | v x =>
    cases x with
    | ro vs =>
      have e1 : vs = xs := by
        have e : some vs = some xs := e
        cases e
        rfl
      subst e1
      obtain ⟨a, ys, e, s, q⟩ := q
      exact ⟨a, ys, e, s.1, q⟩
    | obj n =>
      have e : (match h[n]? with
        | some (.lst vs) => some vs
        | _ => none) = some xs := e
      split at e
      · rename_i vs hn
        cases e
        obtain ⟨hk, ev⟩ := q
        obtain ⟨ys, e1, q1⟩ := R.obj n _ hn
        exact ⟨_, ys, ev, e1, q1⟩
      · cases e
    | _ => cases e
/-- a list of one's own becomes one that stands for good -/
def Rw.drop (w : Rw) (a : Addr) : Rw := w.withP fun b => w.P b ∧ b ≠ a
theorem Le.drop {s : Rw} (l : Le s w) (ha : s.H a = none) : Le s (w.drop a) :=
  ⟨l.n, l.io, l.keep, l.there, fun b o e => ⟨fun z => (l.P b o e).mp z.1, fun z => ⟨(l.P b o e).mpr z, ne_of_none e ha⟩⟩, l.new⟩
theorem RHp.drop (R : RHp K mg w h) (u : w.out a) : RHp K mg (w.drop a) h :=
  ⟨R.len, fun k o e => (R.obj k o e).antiP fun _ z => z.1, R.inj, fun k hk => ⟨R.inP k hk, u k hk⟩, fun b z => R.ph b z.1⟩
theorem RRes.arg (R : RHp K mg w h) {s : Rw} {x : RV} {v : V} (l : Le s w) (q : RRes K s w x v) : ∃ w', w'.H = w.H ∧ Le s w' ∧ RHp K mg w' h ∧ RRes K w' w' x.arg v ∧ (∀ y u, RRes K w w y u → y.arg = y → RRes K w' w' y u) := by
  cases x with
  | v x => exact ⟨w, rfl, l, R, q, fun y u z e => by
      cases y with
      | own _ => cases e
      | v y => exact z
      | view y => exact z⟩
  | view xs => exact ⟨w, rfl, l, R, q, fun y u z e => by
      cases y with
      | own _ => cases e
      | v y => exact z
      | view y => exact z⟩
  | own xs =>
    obtain ⟨a, ys, e, e0, e1, q, p, u⟩ := q
    refine ⟨w.drop a, rfl, l.drop e0, R.drop u, ⟨a, ys, e, ⟨e1, fun z => z.2 rfl⟩, q.antiP fun _ z => z.1⟩, fun y u z e => ?_⟩
    cases y with
    | own _ => cases e
    | v y => exact RVal.antiP (fun _ z => z.1) z
    | view y =>
      obtain ⟨b, zs, eb, s, q⟩ := z
      exact ⟨b, zs, eb, s, q.antiP fun _ z => z.1⟩
theorem arg_arg (x : RV) : x.arg.arg = x.arg := by cases x <;> rfl
theorem RArgs.of_le (R : RHp K mg w h) (l : Le w w1) : ∀ {xs : List RV} {vs : List V}, RArgs K w xs vs → RArgs K w1 xs vs
  | [], _, q => q
  | x :: _, _, ⟨v, r, e, q1, q2⟩ => by
    refine ⟨v, r, e, ?_, RArgs.of_le R l q2⟩
    have q := q1.le R l
    cases x with
    | v x => exact q
    | view x => exact q
    | own x =>
      obtain ⟨a, ys, e, e0, e1, _⟩ := q1
      rw [e0] at e1
      cases e1
theorem keeps_ok : ∀ {rs : List RV} {xs : List Val} {vs : List V}, RArgs K w rs vs → keeps rs = some xs → RVals K w xs vs
  | [], xs, vs, q, e => by
    have e1 : vs = [] := q
    have e2 : some [] = some xs := e
    cases e2
    exact e1
  | r :: rs, xs, vs, ⟨v, r', e, q1, q2⟩, e2 => by
    subst e
    unfold keeps at e2
    split at e2
    · rename_i y ys h1 h2
      cases e2
      refine ⟨v, r', rfl, ?_, keeps_ok q2 h2⟩
      cases r with
      | v x =>
        have h1 : some x = some y := h1
        cases h1
        exact q1
      | view _ => cases h1
      | own zs =>
        obtain ⟨a, ys, e, e0, e1, _⟩ := q1
        rw [e0] at e1
        cases e1
    · cases e2
end
section
variable {X : Cx} {W : WX} {pos : Pos} {a b : Expr} {fa fb : E} {es : List Expr} {fs : A}
theorem sa_nil : PAs X W [] aNil := PA.weak pa_nil fun σ H Q ⟨w, r, h, e, R, k⟩ => by
  subst e
  exact k w [] (Le.refl w) R.hp rfl
theorem sa_cons (ha : PEs X W a fa) (hr : PAs X W es fs) (hs : PySem.starEach (a :: es) X.env = (false, PySem.eval a X.env) :: PySem.starEach es X.env := by rfl) : PAs X W (a :: es) (aCons fa fs) :=
  PA.weak (pa_cons ha hr hs) fun σ H Q ⟨w, r, h, e, R, k⟩ => by
    subst e
    refine ⟨w, r, h, rfl, R, EK.cutA0 (fun x h1 w1 v1 l1 R1 q1 k1 => ?_) k⟩
    obtain ⟨w', eH, l', R', q', _⟩ := q1.arg R1 l1
    refine ⟨w', r, h1, eH, R.le l' R', AK.cutA (fun xs h2 w2 vs l2 R2 q2 k2 => ?_) (AK.le l' k1)⟩
    refine k2 w2 (v1 :: vs) (Le.refl w2) R2 ⟨v1, vs, rfl, ?_, q2⟩
    have q := q'.le R' l2
    cases x with
    | v x => exact q
    | view x => exact q
    | own x => exact q
theorem s_tup {n : Nat} (ha : PAs X W es fs) : PEs X W (.Tuple es n pos) (eTup fs) := PE.weak (pe_tup ha) fun σ H Q ⟨w, r, h, e, R, k⟩ => by
  subst e
  refine ⟨w, r, h, rfl, R, AK.cut (fun rs h1 w1 vs l1 R1 q1 k1 => ?_) k⟩
  split at k1
  · rename_i xs hx
    split at k1
    · rename_i hz
      have q := keeps_ok q1 hx
      refine ⟨by rw [← q.length]; exact hz, fun p hp => ?_⟩
      exact k1 (w1.newT p vs) _ (Le.newT hp) (R1.newT hp) (res_newT R1 hp q)
    · exact k1.elim
  · exact k1.elim
theorem s_lst (ha : PAs X W es fs) : PEs X W (.List es pos) (eLst fs) := PE.weak (pe_lst ha) fun σ H Q ⟨w, r, h, e, R, k⟩ => by
  subst e
  refine ⟨w, r, h, rfl, R, AK.cut (fun rs h1 w1 vs l1 R1 q1 k1 => ?_) k⟩
  split at k1
  · rename_i xs hx
    split at k1
    · rename_i hz
      have q := keeps_ok q1 hx
      refine ⟨by rw [← q.length]; exact hz, fun p hp => ?_⟩
      exact k1 (w1.newL p vs) _ (Le.newL hp R1) (R1.newL hp) (res_newL R1 hp q)
    · exact k1.elim
  · exact k1.elim

/-! ### + and * -/
theorem fAdd_ok {K : Frag} {mg : Mg} : F2Ok K mg fAdd (fun x y H Q => rI0 (fun i j => .int (i + j)) x y H Q ∨ (∃ i j, x = .str i ∧ y = .str j ∧ i.length + j.length ≤ PySem.sizeLine ∧ Q (.str (i ++ j)) H) ∨ rCatA K x y H Q ∨ rCat x y H Q) :=
  fun w w0 w1 h x y z vx vy Q R qx qy e k => by
    unfold fAdd at e
    split at e
    · rename_i i j
      cases e
      have e1 : vx = .int i := qx
      have e2 : vy = .int j := qy
      subst e1 e2
      exact .inl ⟨i, j, rfl, rfl, k w _ (Le.refl w) R rfl⟩
    · rename_i i j
      split at e
      · rename_i hz
        cases e
        have e1 : vx = .str i := qx
        have e2 : vy = .str j := qy
        subst e1 e2
        exact .inr (.inl ⟨i, j, rfl, rfl, hz, k w _ (Le.refl w) R rfl⟩)
      · cases e
    · rename_i a b
      split at e
      · rename_i hz
        cases e
        obtain ⟨p, xs, e1, s1, q1⟩ := qx
        obtain ⟨p2, ys, e2, s2, q2⟩ := qy
        subst e1 e2
        refine .inr (.inr (.inl ⟨p, p2, xs, ys, rfl, rfl, s1.sqt, s2.sqt, by rw [← q1.length, ← q2.length]; exact hz, fun e0 => ?_, fun _ e0 => ?_, fun _ _ t ht => ?_⟩))
        · have ea : a = [] := List.eq_nil_of_length_eq_zero (by rw [q1.length, e0]; rfl)
          subst ea
          exact k w _ (Le.refl w) R ⟨p2, ys, rfl, s2, q2⟩
        · have eb : b = [] := List.eq_nil_of_length_eq_zero (by rw [q2.length, e0]; rfl)
          subst eb
          rw [List.append_nil] at k
          exact k w _ (Le.refl w) R ⟨p, xs, rfl, s1, q1⟩
        · exact k (w.newT t _) _ (Le.newT ht) (R.newT ht) (res_newT R ht (q1.append q2))
      · cases e
    · split at e
      · rename_i a b ha hb
        split at e
        · rename_i hz
          cases e
          obtain ⟨p, xs, e1, s1, q1⟩ := lookL_ok R qx ha
          obtain ⟨p2, ys, e2, s2, q2⟩ := lookL_ok R qy hb
          subst e1 e2
          refine .inr (.inr (.inr ⟨p, p2, xs, ys, rfl, rfl, s1, s2, by rw [← q1.length, ← q2.length]; exact hz, fun t ht => ?_⟩))
          exact k (w.newL t _) _ (Le.newL ht R) (R.newL ht) (res_newL R ht (q1.append q2))
        · cases e
      · cases e
theorem s_add (ha : PEs X W a fa) (hb : PEs X W b fb) : PEs X W (.BinOp a .Add b pos) (e2 fAdd fa fb) := s_op (op_add.or (op_add_str.or (op_catA.or op_cat))) fAdd_ok ha hb
theorem fMul_ok {K : Frag} {mg : Mg} : F2Ok K mg fMul (fun x y H Q => rI CMulX (fun i j => .int (i * j)) x y H Q ∨ rRepT K x y H Q ∨ rRep x y H Q) :=
  fun w w0 w1 h x y z vx vy Q R qx qy e k => by
    unfold fMul at e
    split at e
    · rename_i i j
      split at e
      · rename_i c
        cases e
        have e1 : vx = .int i := qx
        have e2 : vy = .int j := qy
        subst e1 e2
        exact .inl ⟨i, j, rfl, rfl, c, k w _ (Le.refl w) R rfl⟩
      · cases e
    · rename_i a i
      split at e
      · rename_i c
        cases e
        have e2 : vy = .int i := qy
        obtain ⟨p, xs, e1, s1, q1⟩ := qx
        subst e1 e2
        obtain ⟨c1, c2, c3, c4⟩ := c
        refine .inr (.inl ⟨p, i, xs, rfl, rfl, s1.sqt, fun e0 => ?_, c2, c3, by rw [← q1.length]; exact c4, fun t ht => ?_⟩)
        · have ea : a = [] := List.eq_nil_of_length_eq_zero (by rw [q1.length, e0]; rfl)
          subst ea
          cases c1
        · exact k (w.newT t _) _ (Le.newT ht) (R.newT ht) (res_newT R ht (q1.flatten_rep _))
      · cases e
    · rename_i i _ _
      split at e
      · rename_i a ha
        split at e
        · rename_i c
          cases e
          have e2 : vy = .int i := qy
          obtain ⟨p, xs, e1, s1, q1⟩ := lookL_ok R qx ha
          subst e1 e2
          obtain ⟨c1, c2, c3⟩ := c
          refine .inr (.inr ⟨p, i, xs, rfl, rfl, s1, c1, c2, by rw [← q1.length]; exact c3, fun t ht => ?_⟩)
          exact k (w.newL t _) _ (Le.newL ht R) (R.newL ht) (res_newL R ht (q1.flatten_rep _))
        · cases e
      · cases e
    · cases e
theorem s_mul (ha : PEs X W a fa) (hb : PEs X W b fb) : PEs X W (.BinOp a .Mult b pos) (e2 fMul fa fb) := s_op (op_mulX.or (op_repT.or op_rep)) fMul_ok ha hb

/-! ### a place -/
theorem RVals.atI {K : Frag} {w : Rw} {xs : List Val} {vs : List V} (q : RVals K w xs vs) {i : Int} {x : Val} (e : L2.atI xs i = some x) : ∃ v, L2.atI vs i = some v ∧ RVal K w x v := by
  unfold L2.atI at e ⊢
  rw [q.length] at e
  cases hj : ixN vs.length i with
  | none =>
    rw [hj] at e
    cases e
  | some j =>
    rw [hj] at e
    exact q.get e
theorem fIx_ok {K : Frag} {mg : Mg} : F2Ok K mg fIx (rIx K) := fun w w0 w1 h x y z vx vy Q R qx qy e k => by
  unfold fIx at e
  split at e
  · rename_i i
    have e2 : vy = .int i := qy
    subst e2
    split at e
    · rename_i t
      split at e
      · rename_i hz
        rw [Option.map_eq_some_iff] at e
        obtain ⟨c, hc, ez⟩ := e
        subst ez
        have e1 : vx = .str t := qx
        subst e1
        exact .inr (.inr ⟨t, i, c, rfl, rfl, hz, hc, k w _ (Le.refl w) R rfl⟩)
      · cases e
    · split at e
      · rename_i tp xs hl
        rw [Option.map_eq_some_iff] at e
        obtain ⟨c, hc, ez⟩ := e
        subst ez
        cases tp with
        | true =>
          obtain ⟨p, ys, e1, s, q, _⟩ := look_tup R qx hl
          subst e1
          obtain ⟨v, hv, qv⟩ := q.atI hc
          exact .inr (.inl ⟨p, ys, i, v, rfl, rfl, s, hv, k w _ (Le.refl w) R qv⟩)
        | false =>
          obtain ⟨p, ys, e1, s, q⟩ := look_lst R qx hl
          subst e1
          obtain ⟨v, hv, qv⟩ := q.atI hc
          exact .inl ⟨p, ys, i, v, rfl, rfl, s, hv, k w _ (Le.refl w) R qv⟩
      · cases e
  · cases e
theorem s_ix (ha : PEs X W a fa) (hb : PEs X W b fb) (hs : PlainIx b := by exact fun _ _ => rfl) : PEs X W (.Subscript a b pos) (e2 fIx fa fb) := PE.weak (pe_ix ix_seq ha hb hs) (e2_cut fIx_ok)

theorem s_neg (ha : PEs X W a fa) : PEs X W (.UnaryOp .USub a pos) (e1 fNeg fa) := s_un un_neg (fun w w0 h x z vx Q R qx e k => by
  unfold fNeg at e
  split at e
  · rename_i i
    cases e
    have e1 : vx = .int i := qx
    subst e1
    exact ⟨i, rfl, k w _ (Le.refl w) R rfl⟩
  · cases e) ha
theorem s_inv (ha : PEs X W a fa) : PEs X W (.UnaryOp .Invert a pos) (e1 fInv fa) := s_un un_inv (fun w w0 h x z vx Q R qx e k => by
  unfold fInv at e
  split at e
  · rename_i i
    cases e
    have e1 : vx = .int i := qx
    subst e1
    exact ⟨i, rfl, k w _ (Le.refl w) R rfl⟩
  · cases e) ha
/-! ### comparisons of ints -/
theorem s_cmp {op : CmpOp} {f : F2} {r2 : R2} (ho : OpR X (PySem.compareOp op) r2) (hf : F2Ok X.K X.mg f r2) (hm : PySem.behindInMarks op b = false) (ha : PEs X W a fa) (hb : PEs X W b fb) : PEs X W (.Compare a [op] [b] pos) (e2 f fa fb) :=
  PE.weak (pe_cmpR ho ha hb hm) (e2_cut hf)
theorem s_lt (ha : PEs X W a fa) (hb : PEs X W b fb) : PEs X W (.Compare a [.Lt] [b] pos) (e2 fLt fa fb) := s_cmp op_lt (fI0_ok fun _ _ _ => rfl) (nomark _) ha hb
theorem s_le (ha : PEs X W a fa) (hb : PEs X W b fb) : PEs X W (.Compare a [.LtE] [b] pos) (e2 fLe fa fb) := s_cmp op_le (fI0_ok fun _ _ _ => rfl) (nomark _) ha hb
theorem s_gt (ha : PEs X W a fa) (hb : PEs X W b fb) : PEs X W (.Compare a [.Gt] [b] pos) (e2 fGt fa fb) := s_cmp op_gt (fI0_ok fun _ _ _ => rfl) (nomark _) ha hb
theorem s_ge (ha : PEs X W a fa) (hb : PEs X W b fb) : PEs X W (.Compare a [.GtE] [b] pos) (e2 fGe fa fb) := s_cmp op_ge (fI0_ok fun _ _ _ => rfl) (nomark _) ha hb
end
end SM

/-! SMExp3: equality, membership, built-ins, tests. -/
namespace SM
open PySem (Str Expr Pos Operator CmpOp PyData)
open L2 hiding St
section
variable {K : Frag} {mg : Mg} {w w0 w1 w2 : Rw} {h h' : Heap} {a : Addr}
mutual
theorem toD_ok : ∀ {x : Val} {v : V} {d : PyData}, RVal K w x v → toD x = some d → Dp K w.H v d
  | .none, v, d, q, e => by
    have e1 : v = .non := q
    have e2 : some PyData.none = some d := e
    cases e2
    subst e1
    exact .non
  | .bool b, v, d, q, e => by
    have e1 : v = .bl b := q
    have e2 : some (PyData.bool b) = some d := e
    cases e2
    subst e1
    exact .bl b
  | .int b, v, d, q, e => by
    have e1 : v = .int b := q
    have e2 : some (PyData.int b) = some d := e
    cases e2
    subst e1
    exact .int b
  | .str b, v, d, q, e => by
    have e1 : v = .str b := q
    have e2 : some (PyData.str b) = some d := e
    cases e2
    subst e1
    exact .str b
  | .tup vs, v, d, ⟨a, xs, e1, s, q⟩, e => by
    have e2 : (toDs vs).map PyData.tuple = some d := e
    rw [Option.map_eq_some_iff] at e2
    obtain ⟨ds, h1, h2⟩ := e2
    subst e1 h2
    exact .tup s.sqt (toDs_ok q h1)
  | .ro vs, v, d, ⟨a, xs, e1, s, q⟩, e => by
    have e2 : (toDs vs).map PyData.list = some d := e
    rw [Option.map_eq_some_iff] at e2
    obtain ⟨ds, h1, h2⟩ := e2
    subst e1 h2
    exact .lst s.sql (toDs_ok q h1)
  | .scr _, _, _, _, e => nomatch (show Option.none = Option.some _ from e)
  | .obj _, _, _, _, e => nomatch (show Option.none = Option.some _ from e)
  | .err _ _ _, _, _, _, e => nomatch (show Option.none = Option.some _ from e)
theorem toDs_ok : ∀ {xs : List Val} {vs : List V} {ds : List PyData}, RVals K w xs vs → toDs xs = some ds → DpAll K w.H vs ds
  | [], vs, ds, q, e => by
    have e1 : vs = [] := q
    have e2 : some [] = some ds := e
    cases e2
    subst e1
    exact .nil
  | x :: xs, vs, ds, ⟨y, ys, e1, q1, q2⟩, e => by
    have e2 : (match toD x, toDs xs with
      | some d, some ds => some (d :: ds)
      | _, _ => none) = some ds := e
    split at e2
    · rename_i d es h1 h2
      cases e2
      subst e1
      exact .cons (toD_ok q1 h1) (toDs_ok q2 h2)
    · cases e2
end
theorem toDR_ok {x : RV} {v : V} {d : PyData} (R : RHp K mg w h) (q : RRes K w0 w x v) (e : toDR h x = some d) : Dp K w.H v d := by
  have lst : ∀ {vs : List Val}, lookL h x = some vs → (toDs vs).map PyData.list = some d → Dp K w.H v d := fun {vs} hl e => by
    rw [Option.map_eq_some_iff] at e
    obtain ⟨ds, h1, h2⟩ := e
    obtain ⟨p, ys, e1, s, q1⟩ := lookL_ok R q hl
    subst e1 h2
    exact .lst (.of s) (toDs_ok q1 h1)
  cases x with
  | own vs => exact lst rfl e
  | view vs => exact lst rfl e
  | v x =>
    cases x with
    | obj n =>
      have e : (match h[n]? with
        | some (.lst vs) => (toDs vs).map PyData.list
        | _ => none) = some d := e
      split at e
      · rename_i vs hn
        refine lst (vs := vs) ?_ e
        show (match h[n]? with
          | some (.lst vs) => some vs
          | _ => none) = some vs
        rw [hn]
      · cases e
    | _ => exact toD_ok q e
theorem fEq_ok : F2Ok K mg (fEq false) (rEqD K) := fun w w0 w1 h x y z vx vy Q R qx qy e k => by
  unfold fEq at e
  split at e
  · rename_i d d2 h1 h2
    split at e
    · rename_i c
      cases e
      exact ⟨d, d2, toDR_ok R qx h1, toDR_ok R qy h2, c.1, c.2, k w _ (Le.refl w) R rfl⟩
    · cases e
  · cases e
theorem fNe_ok : F2Ok K mg (fEq true) (rNeD K) := fun w w0 w1 h x y z vx vy Q R qx qy e k => by
  unfold fEq at e
  split at e
  · rename_i d d2 h1 h2
    split at e
    · rename_i c
      cases e
      exact ⟨d, d2, toDR_ok R qx h1, toDR_ok R qy h2, c.1, c.2, k w _ (Le.refl w) R rfl⟩
    · cases e
  · cases e
theorem flat_ok {x : Val} {v : V} (q : RVal K w x v) (f : flat x = true) : flatV v = true := by
  cases x with
  | none => have e : v = .non := q; subst e; rfl
  | bool b => have e : v = .bl b := q; subst e; rfl
  | int b => have e : v = .int b := q; subst e; rfl
  | str b => have e : v = .str b := q; subst e; rfl
  | _ => cases f
theorem flats_ok : ∀ {xs : List Val} {vs : List V}, RVals K w xs vs → xs.all flat = true → vs.all flatV = true
  | [], vs, q, _ => by
    have e : vs = [] := q
    subst e
    rfl
  | x :: xs, vs, ⟨y, ys, e, q1, q2⟩, f => by
    subst e
    rw [List.all_cons, Bool.and_eq_true] at f ⊢
    exact ⟨flat_ok q1 f.1, flats_ok q2 f.2⟩
theorem eqF_ok {x y : Val} {v u : V} (q : RVal K w x v) (q2 : RVal K w y u) (f : flat x = true) (f2 : flat y = true) : eqV v u = eqF x y := by
  cases x with
  | none =>
    have e : v = .non := q
    subst e
    cases y with
    | none => have e : u = .non := q2; subst e; rfl
    | bool b => have e : u = .bl b := q2; subst e; rfl
    | int b => have e : u = .int b := q2; subst e; rfl
    | str b => have e : u = .str b := q2; subst e; rfl
    | _ => cases f2
  | bool a =>
    have e : v = .bl a := q
    subst e
    cases y with
    | none => have e : u = .non := q2; subst e; rfl
    | bool b => have e : u = .bl b := q2; subst e; rfl
    | int b => have e : u = .int b := q2; subst e; rfl
    | str b => have e : u = .str b := q2; subst e; rfl
    | _ => cases f2
  | int a =>
    have e : v = .int a := q
    subst e
    cases y with
    | none => have e : u = .non := q2; subst e; rfl
    | bool b => have e : u = .bl b := q2; subst e; rfl
    | int b => have e : u = .int b := q2; subst e; rfl
    | str b => have e : u = .str b := q2; subst e; rfl
    | _ => cases f2
  | str a =>
    have e : v = .str a := q
    subst e
    cases y with
    | none => have e : u = .non := q2; subst e; rfl
    | bool b => have e : u = .bl b := q2; subst e; rfl
    | int b => have e : u = .int b := q2; subst e; rfl
    | str b => have e : u = .str b := q2; subst e; rfl
    | _ => cases f2
  | _ => cases f
theorem anyF_ok {x : Val} {v : V} (q : RVal K w x v) (f : flat x = true) : ∀ {xs : List Val} {vs : List V}, RVals K w xs vs → xs.all flat = true → (vs.any fun y => eqV y v) = xs.any fun z => eqF z x
  | [], vs, q, _ => by
    have e : vs = [] := q
    subst e
    rfl
  | z :: xs, vs, ⟨y, ys, e, q1, q2⟩, g => by
    subst e
    rw [List.all_cons, Bool.and_eq_true] at g
    rw [List.any_cons, List.any_cons, eqF_ok q1 q g.1 f, anyF_ok q f q2 g.2]
abbrev rInAny (K : Frag) (neg : Bool) : R2 := fun x y H Q => (∃ (c : Nat) (z : Str), x = .str ⟨#[c]⟩ ∧ y = .str z ∧ Q (.bl (if neg then !decide (c ∈ z.cps.toList) else decide (c ∈ z.cps.toList))) H) ∨ rIn K neg x y H Q
theorem fIn_ok {neg : Bool} : F2Ok K mg (fIn neg) (rInAny K neg) := fun w w0 w1 h x y z vx vy Q R qx qy e k => by
  unfold fIn at e
  split at e
  · rename_i x
    split at e
    · rename_i t
      split at e
      · rename_i c
        split at e
        · rename_i n hc
          cases e
          have e1 : vx = .str c := qx
          have e2 : vy = .str t := qy
          subst e1 e2
          refine .inl ⟨n, t, ?_, rfl, k w _ (Le.refl w) R rfl⟩
          have : c.cps = #[n] := by
            cases hcc : c.cps with
            | mk l =>
              rw [hcc] at hc
              have hc : l = [n] := hc
              rw [hc]
          cases c
          simp only at this
          rw [this]
        · cases e
      · cases e
    · split at e
      · rename_i tp xs hl
        split at e
        · rename_i c
          cases e
          cases tp with
          | true =>
            obtain ⟨p, ys, e1, s, q, _⟩ := look_tup R qy hl
            subst e1
            refine .inr ⟨p, ys, rfl, .inr s, flat_ok qx c.1, flats_ok q c.2, ?_⟩
            unfold inV
            rw [anyF_ok qx c.1 q c.2]
            exact k w _ (Le.refl w) R rfl
          | false =>
            obtain ⟨p, ys, e1, s, q⟩ := look_lst R qy hl
            subst e1
            refine .inr ⟨p, ys, rfl, .inl s, flat_ok qx c.1, flats_ok q c.2, ?_⟩
            unfold inV
            rw [anyF_ok qx c.1 q c.2]
            exact k w _ (Le.refl w) R rfl
        · cases e
      · cases e
  · cases e
theorem tyName_ok {x : RV} {v : V} {t : String} (R : RHp K mg w h) (q : RRes K w0 w x v) (e : tyName h x = some t) : TyX K w.H v (.type t) := by
  have lst : ∀ {vs : List Val}, lookL h x = some vs → TyX K w.H v (.type "list") := fun {vs} hl => by
    obtain ⟨p, ys, e1, s, q⟩ := lookL_ok R q hl
    subst e1
    exact .base (.lst s)
  cases x with
  | own vs =>
    have e1 : some "list" = some t := e
    cases e1
    exact lst rfl
  | view vs =>
    have e1 : some "list" = some t := e
    cases e1
    exact lst rfl
  | v x =>
    cases x with
    | err _ _ _ =>
      have e1 : Option.none = some t := e
      cases e1
    | none =>
      have e1 : some "NoneType" = some t := e
      have e2 : v = .non := q
      cases e1
      subst e2
      exact .base .non
    | bool b =>
      have e1 : some "bool" = some t := e
      have e2 : v = .bl b := q
      cases e1
      subst e2
      exact .base (.bl b)
    | int b =>
      have e1 : some "int" = some t := e
      have e2 : v = .int b := q
      cases e1
      subst e2
      exact .base (.int b)
    | str b =>
      have e1 : some "str" = some t := e
      have e2 : v = .str b := q
      cases e1
      subst e2
      exact .base (.str b)
    | tup vs =>
      have e1 : some "tuple" = some t := e
      cases e1
      obtain ⟨a, xs, e2, s, _⟩ := q
      subst e2
      rcases s with ⟨s | ⟨o, s⟩, _⟩ | ⟨o, its, n, s, c, _⟩
      · exact .base (.tup s)
      · exact .fTuple s
      · exact .kTuple s c
    | ro vs =>
      have e1 : some "list" = some t := e
      cases e1
      exact lst rfl
    | scr vs =>
      have e1 : some "list" = some t := e
      cases e1
      obtain ⟨a, xs, e2, s, _⟩ := q
      subst e2
      rcases s with ⟨s | ⟨o, s⟩, _⟩ | ⟨o, its, n, s, c, _⟩
      · exact .base (.lst s)
      · exact .base (.frz s)
      · exact .kList s c
    | obj n =>
      have e : (match h[n]? with
        | some (.lst _) => some "list"
        | some (.dct _) => some "dict"
        | _ => none) = some t := e
      obtain ⟨hk, ev⟩ := q
      subst ev
      split at e
      · rename_i vs hn
        cases e
        obtain ⟨ys, e1, _⟩ := R.obj n _ hn
        exact .base (.lst e1)
      · rename_i vs hn
        cases e
        obtain ⟨ys, e1, _⟩ := R.obj n _ hn
        exact .base (.dK e1)
      · cases e
theorem truth_ok {x : RV} {v : V} {c : Bool} (R : RHp K mg w h) (q : RRes K w0 w x v) (e : truth h x = some c) : TruV K v w.H c := by
  have seq : ∀ {tp : Bool} {vs : List Val}, look h x = some (tp, vs) → c = !vs.isEmpty → TruV K v w.H c := fun {tp vs} hl ec => by
    cases tp with
    | true =>
      obtain ⟨p, ys, e1, s, q1, _⟩ := look_tup R q hl
      subst e1
      refine .inr (.inl ⟨ys, s, ?_⟩)
      rw [ec]
      have := q1.length
      cases vs <;> cases ys <;> first | rfl | (simp at this)
    | false =>
      obtain ⟨p, ys, e1, s, q1⟩ := look_lst R q hl
      subst e1
      refine .inl ⟨ys, s, ?_⟩
      rw [ec]
      have := q1.length
      cases vs <;> cases ys <;> first | rfl | (simp at this)
  have gen : (match look h x with
    | some (_, xs) => some (!xs.isEmpty)
    | none => none) = some c → TruV K v w.H c := fun e => by
    split at e
    · rename_i tp vs hl
      cases e
      exact seq hl rfl
    · cases e
  cases x with
  | own vs => exact gen e
  | view vs => exact gen e
  | v x =>
    cases x with
    | none =>
      have e1 : some false = some c := e
      have e2 : v = .non := q
      cases e1
      subst e2
      exact rfl
    | bool b =>
      have e1 : some b = some c := e
      have e2 : v = .bl b := q
      cases e1
      subst e2
      exact rfl
    | int b =>
      have e1 : some (b != 0) = some c := e
      have e2 : v = .int b := q
      cases e1
      subst e2
      exact rfl
    | str b =>
      have e1 : (if b.length ≤ line then some ((b.length : Int) != 0) else none) = some c := e
      have e2 : v = .str b := q
      subst e2
      split at e1
      · rename_i hz
        cases e1
        exact ⟨hz, rfl⟩
      · cases e1
    | _ => exact gen e
end
section
variable {X : Cx} {W : WX} {pos : Pos} {a b c : Expr} {fa fb fc : E} {es : List Expr} {fs : A}
theorem s_eq (hu : X.A.units + 64 < PySem.cLine) (ha : PEs X W a fa) (hb : PEs X W b fb) : PEs X W (.Compare a [.Eq] [b] pos) (e2 (fEq false) fa fb) := s_cmp (op_eqD hu) fEq_ok (nomark _) ha hb
theorem s_ne (hu : X.A.units + 64 < PySem.cLine) (ha : PEs X W a fa) (hb : PEs X W b fb) : PEs X W (.Compare a [.NotEq] [b] pos) (e2 (fEq true) fa fb) := s_cmp (op_neD hu) fNe_ok (nomark _) ha hb
theorem s_in (ha : PEs X W a fa) (hb : PEs X W b fb) (hm : PySem.behindInMarks .In b = false := by rfl) : PEs X W (.Compare a [.In] [b] pos) (e2 (fIn false) fa fb) := s_cmp (op_in_sign.or op_in_seq) (fIn_ok (neg := false)) hm ha hb
theorem s_nin (ha : PEs X W a fa) (hb : PEs X W b fb) (hm : PySem.behindInMarks .NotIn b = false := by rfl) : PEs X W (.Compare a [.NotIn] [b] pos) (e2 (fIn true) fa fb) := s_cmp (op_notIn_sign.or op_notIn_seq) (fIn_ok (neg := true)) hm ha hb
theorem none_res {K : Frag} {w w0 : Rw} {x : RV} {v : V} (q : RRes K w0 w x v) : decide (v = .non) = (match x with
    | .v .none => true
    | _ => false) := by
  cases x with
  | own vs => obtain ⟨a, ys, e, _⟩ := q; subst e; rfl
  | view vs => obtain ⟨a, ys, e, _⟩ := q; subst e; rfl
  | v x =>
    cases x with
    | none => have e : v = .non := q; subst e; rfl
    | bool b => have e : v = .bl b := q; subst e; rfl
    | int b => have e : v = .int b := q; subst e; rfl
    | str b => have e : v = .str b := q; subst e; rfl
    | tup vs => obtain ⟨a, ys, e, _⟩ := q; subst e; rfl
    | ro vs => obtain ⟨a, ys, e, _⟩ := q; subst e; rfl
    | scr vs => obtain ⟨a, ys, e, _⟩ := q; subst e; rfl
    | obj n => obtain ⟨_, e⟩ := q; subst e; rfl
    | err a dx vs => obtain ⟨e, _⟩ := q; subst e; rfl
theorem s_isN {j : Nat} {p : Pos} (ha : PEs X W a fa) : PEs X W (.Compare a [.Is] [.Constant .none j p] pos) (e1 (fNone false) fa) := PE.weak (pe_cmp (pc_isN ha) (by exact nomark _)) fun σ H Q ⟨w, r, h, e, R, k⟩ => by
  subst e
  refine ⟨w, r, h, rfl, R, EK.cut (fun x h1 w1 v1 l1 R1 q1 k1 => ?_) k⟩
  obtain ⟨z, ez, kz⟩ := opt_cut k1
  rw [none_res q1]
  unfold fNone at ez
  split at ez
  · cases ez
    exact kz w1 _ (Le.refl w1) R1 rfl
  · rename_i hx
    cases ez
    split
    · exact absurd rfl hx
    · exact kz w1 _ (Le.refl w1) R1 rfl
theorem s_notN {j : Nat} {p : Pos} (ha : PEs X W a fa) : PEs X W (.Compare a [.IsNot] [.Constant .none j p] pos) (e1 (fNone true) fa) := PE.weak (pe_cmp (pc_notN ha) (by exact nomark _)) fun σ H Q ⟨w, r, h, e, R, k⟩ => by
  subst e
  refine ⟨w, r, h, rfl, R, EK.cut (fun x h1 w1 v1 l1 R1 q1 k1 => ?_) k⟩
  obtain ⟨z, ez, kz⟩ := opt_cut k1
  rw [none_res q1]
  unfold fNone at ez
  split at ez
  · cases ez
    exact kz w1 _ (Le.refl w1) R1 rfl
  · rename_i hx
    cases ez
    split
    · exact absurd rfl hx
    · exact kz w1 _ (Le.refl w1) R1 rfl
/-! ### built-ins of one and two values -/
def C1Ok (K : Frag) (mg : Mg) (f : F1) (r1 : List V → Hp → VK → Prop) : Prop := ∀ (w w0 : Rw) (h : Heap) (x z : RV) (vx : V) (Q : VK), RHp K mg w h → RRes K w0 w x vx → f h x = some z →
  (∀ w' v', Le w w' → RHp K mg w' h → RRes K w w' z v' → Q v' w'.H) → r1 [vx] w.H Q
def C2Ok (K : Frag) (mg : Mg) (f : F2) (r2 : List V → Hp → VK → Prop) : Prop := ∀ (w w0 w1 : Rw) (h : Heap) (x y z : RV) (vx vy : V) (Q : VK), RHp K mg w h → RRes K w0 w x vx → RRes K w1 w y vy → f h x y = some z →
  (∀ w' v', Le w w' → RHp K mg w' h → RRes K w w' z v' → Q v' w'.H) → r2 [vx, vy] w.H Q
theorem c1_cut {K : Frag} {mg : Mg} {W : WX} {f : F1} {r1 : List V → Hp → VK → Prop} {fa : E} (hf : C1Ok K mg f r1) : ∀ σ H Q, tE K mg W (e1 f fa) σ H Q → tCB r1 (tCons (tE K mg W fa) tNil) σ H Q := fun σ H Q ⟨w, r, h, e, R, k⟩ => by
  subst e
  refine ⟨w, r, h, rfl, R, EK.cut (fun x h1 w1 v1 l1 R1 q1 k1 => ?_) k⟩
  obtain ⟨z, ez, kz⟩ := opt_cut k1
  exact hf w1 w h1 x z v1 Q R1 q1 ez kz
theorem c2_cut {K : Frag} {mg : Mg} {W : WX} {f : F2} {r2 : List V → Hp → VK → Prop} {fa fb : E} (hf : C2Ok K mg f r2) : ∀ σ H Q, tE K mg W (e2 f fa fb) σ H Q → tCB r2 (tCons (tE K mg W fa) (tCons (tE K mg W fb) tNil)) σ H Q := fun σ H Q ⟨w, r, h, e, R, k⟩ => by
  subst e
  refine ⟨w, r, h, rfl, R, EK.cut (fun x h1 w1 v1 l1 R1 q1 k1 => ?_) k⟩
  refine ⟨w1, r, h1, rfl, R.le l1 R1, EK.cut (fun y h2 w2 v2 l2 R2 q2 k2 => ?_) k1⟩
  obtain ⟨z, ez, kz⟩ := opt_cut k2
  exact hf w2 w w1 h2 x y z v1 v2 Q R2 (q1.le R1 l2) q2 ez kz
variable {p : Pos}
theorem s_len (hg : Gl X "len") (hm : X.mg "len" = none) (ha : PEs X W a fa) (hs : PySem.starEach [a] X.env = (false, PySem.eval a X.env) :: PySem.starEach [] X.env := by rfl) : PEs X W (.Call (.Name "len" p) [a] [] pos) (e1 fLen fa) := PE.weak (pe_callB call_len hg hm PySem.boot_len (pa_cons ha pa_nil hs) (by decide) (by decide) hs) (c1_cut fun w w0 h x z vx Q R qx e k => by
  unfold fLen at e
  split at e
  · rename_i t
    split at e
    · rename_i hz
      cases e
      have e1 : vx = .str t := qx
      subst e1
      exact ⟨_, _, rfl, ⟨hz, rfl⟩, k w _ (Le.refl w) R rfl⟩
    · cases e
  · split at e
    · rename_i tp xs hl
      cases e
      cases tp with
      | true =>
        obtain ⟨p, ys, e1, s, q, _⟩ := look_tup R qx hl
        subst e1
        exact ⟨_, _, rfl, .inr ⟨ys, s, q.length⟩, k w _ (Le.refl w) R rfl⟩
      | false =>
        obtain ⟨p, ys, e1, s, q⟩ := look_lst R qx hl
        subst e1
        exact ⟨_, _, rfl, .inl ⟨ys, s, q.length⟩, k w _ (Le.refl w) R rfl⟩
    · cases e)
theorem s_abs (hg : Gl X "abs") (hm : X.mg "abs" = none) (ha : PEs X W a fa) (hs : PySem.starEach [a] X.env = (false, PySem.eval a X.env) :: PySem.starEach [] X.env := by rfl) : PEs X W (.Call (.Name "abs" p) [a] [] pos) (e1 fAbs fa) := PE.weak (pe_callB call_abs hg hm PyProof.Rows.boot_abs (pa_cons ha pa_nil hs) (by decide) (by decide) hs) (c1_cut fun w w0 h x z vx Q R qx e k => by
  unfold fAbs at e
  split at e
  · rename_i i
    cases e
    have e1 : vx = .int i := qx
    subst e1
    exact ⟨i, rfl, k w _ (Le.refl w) R rfl⟩
  · cases e)
theorem s_toInt (hg : Gl X "int") (hm : X.mg "int" = none) (ha : PEs X W a fa) (hs : PySem.starEach [a] X.env = (false, PySem.eval a X.env) :: PySem.starEach [] X.env := by rfl) : PEs X W (.Call (.Name "int" p) [a] [] pos) (e1 fInt fa) := PE.weak (pe_callTy call_int1 hg hm (by decide +kernel) (pa_cons ha pa_nil hs) (by decide) (by decide) hs) (c1_cut fun w w0 h x z vx Q R qx e k => by
  unfold fInt at e
  split at e
  · rename_i i
    cases e
    have e1 : vx = .int i := qx
    subst e1
    exact .inl ⟨i, rfl, k w _ (Le.refl w) R rfl⟩
  · rename_i i
    cases e
    have e1 : vx = .bl i := qx
    subst e1
    exact .inr ⟨i, rfl, k w _ (Le.refl w) R rfl⟩
  · cases e)
theorem s_list (hg : Gl X "list") (hm : X.mg "list" = none) (ha : PEs X W a fa) (hs : PySem.starEach [a] X.env = (false, PySem.eval a X.env) :: PySem.starEach [] X.env := by rfl) : PEs X W (.Call (.Name "list" p) [a] [] pos) (e1 fList fa) := PE.weak (pe_callTy call_list_of hg hm (by decide +kernel) (pa_cons ha pa_nil hs) (by decide) (by decide) hs) (c1_cut fun w w0 h x z vx Q R qx e k => by
  unfold fList at e
  split at e
  · rename_i tp xs hl
    cases e
    cases tp with
    | true =>
      obtain ⟨p, ys, e1, s, q, _⟩ := look_tup R qx hl
      subst e1
      exact ⟨p, ys, rfl, .inr s, fun t ht => k (w.newL t _) _ (Le.newL ht R) (R.newL ht) (res_newL R ht q)⟩
    | false =>
      obtain ⟨p, ys, e1, s, q⟩ := look_lst R qx hl
      subst e1
      exact ⟨p, ys, rfl, .inl s, fun t ht => k (w.newL t _) _ (Le.newL ht R) (R.newL ht) (res_newL R ht q)⟩
  · cases e)
theorem s_tuple (hg : Gl X "tuple") (hm : X.mg "tuple" = none) (ha : PEs X W a fa) (hs : PySem.starEach [a] X.env = (false, PySem.eval a X.env) :: PySem.starEach [] X.env := by rfl) : PEs X W (.Call (.Name "tuple" p) [a] [] pos) (e1 fTuple fa) := PE.weak (pe_callTy call_tuple_of hg hm (by decide +kernel) (pa_cons ha pa_nil hs) (by decide) (by decide) hs) (c1_cut fun w w0 h x z vx Q R qx e k => by
  unfold fTuple at e
  split at e
  · rename_i tp xs hl
    cases e
    cases tp with
    | true =>
      obtain ⟨p, ys, e1, s, q, ex⟩ := look_tup R qx hl
      subst e1 ex
      exact ⟨p, ys, rfl, .inr ⟨s, k w _ (Le.refl w) R qx⟩⟩
    | false =>
      obtain ⟨p, ys, e1, s, q⟩ := look_lst R qx hl
      subst e1
      exact ⟨p, ys, rfl, .inl ⟨s, fun t ht => k (w.newT t _) _ (Le.newT ht) (R.newT ht) (res_newT R ht q)⟩⟩
  · cases e)
theorem s_max (hc : X.calm = true) (hg : Gl X "max") (hm : X.mg "max" = none) (ha : PEs X W a fa) (hb : PEs X W b fb) (hs : PySem.starEach [a, b] X.env = (false, PySem.eval a X.env) :: PySem.starEach [b] X.env := by rfl) (hs2 : PySem.starEach [b] X.env = (false, PySem.eval b X.env) :: PySem.starEach [] X.env := by rfl) (hpl : (PySem.backTo pos (PySem.starEach [b] X.env)).any (·.1) = false := by rfl) :
    PEs X W (.Call (.Name "max" p) [a, b] [] pos) (e2 fMax fa fb) :=
  PE.weak (pe_callB (call_max2 hc) hg hm (by decide +kernel) (pa_cons ha (pa_cons hb pa_nil hs2) hs) (by decide) (by decide) hs hpl) (c2_cut fun w w0 w1 h x y z vx vy Q R qx qy e k => by
  unfold fMax fI0 at e
  split at e
  · rename_i i j
    cases e
    have e1 : vx = .int i := qx
    have e2 : vy = .int j := qy
    subst e1 e2
    exact ⟨i, j, rfl, k w _ (Le.refl w) R rfl⟩
  · cases e)
theorem s_min (hc : X.calm = true) (hg : Gl X "min") (hm : X.mg "min" = none) (ha : PEs X W a fa) (hb : PEs X W b fb) (hs : PySem.starEach [a, b] X.env = (false, PySem.eval a X.env) :: PySem.starEach [b] X.env := by rfl) (hs2 : PySem.starEach [b] X.env = (false, PySem.eval b X.env) :: PySem.starEach [] X.env := by rfl) (hpl : (PySem.backTo pos (PySem.starEach [b] X.env)).any (·.1) = false := by rfl) :
    PEs X W (.Call (.Name "min" p) [a, b] [] pos) (e2 fMin fa fb) :=
  PE.weak (pe_callB (call_min2 hc) hg hm (by decide +kernel) (pa_cons ha (pa_cons hb pa_nil hs2) hs) (by decide) (by decide) hs hpl) (c2_cut fun w w0 w1 h x y z vx vy Q R qx qy e k => by
  unfold fMin fI0 at e
  split at e
  · rename_i i j
    cases e
    have e1 : vx = .int i := qx
    have e2 : vy = .int j := qy
    subst e1 e2
    exact ⟨i, j, rfl, k w _ (Le.refl w) R rfl⟩
  · cases e)
def KitOk (T : String) : Prop := ∀ t, t ∈ ["NoneType", "bool", "int", "str", "tuple", "list", "dict"] → kitB t T = some (subT t T)
theorem tyName_mem {h : Heap} {x : RV} {t : String} (e : tyName h x = some t) : t ∈ ["NoneType", "bool", "int", "str", "tuple", "list", "dict"] := by
  unfold tyName at e
  split at e <;> first | (cases e; simp; done) | (cases e; done) | skip
  split at e <;> first | (cases e; simp; done) | cases e
theorem kit_int : KitOk "int" := by unfold KitOk; decide +kernel
theorem kit_bool : KitOk "bool" := by unfold KitOk; decide +kernel
theorem kit_str : KitOk "str" := by unfold KitOk; decide +kernel
theorem kit_tuple : KitOk "tuple" := by unfold KitOk; decide +kernel
theorem kit_list : KitOk "list" := by unfold KitOk; decide +kernel
theorem s_isT {T : Str} {n : String} (hk : KitOk n) (hg : Gl X "isinstance") (hm : X.mg "isinstance" = none) (hgT : Gl X T) (hmT : X.mg T = none) (hvT : PySem.bootBuiltins T = some (.type n)) (ha : PEs X W a fa) {pT : Pos} (hnT : T ≠ "__name__" := by decide) (hdT : (T == ("__debug__" : Str)) = false := by decide)
    (hs : PySem.starEach [a, .Name T pT] X.env = (false, PySem.eval a X.env) :: PySem.starEach [.Name T pT] X.env := by rfl) :
    PEs X W (.Call (.Name "isinstance" p) [a, .Name T pT] [] pos) (e1 (fIs n) fa) :=
  PE.weak (pe_callB call_isi hg hm PyProof.Rows.boot_isinstance (pa_cons ha (pa_cons (pe_bltn (v := .ty n) hgT hmT hvT rfl hnT hdT) pa_nil) hs) (by decide) (by decide) hs) fun σ H Q ⟨w, r, h, e, R, k⟩ => by
    subst e
    refine ⟨w, r, h, rfl, R, EK.cut (fun x h1 w1 v1 l1 R1 q1 k1 => ?_) k⟩
    obtain ⟨z, ez, kz⟩ := opt_cut k1
    unfold fIs at ez
    split at ez
    · rename_i t ht
      cases ez
      exact ⟨v1, .ty n, .type t, .type n, _, rfl, .ty n, tyName_ok R1 q1 ht, kit_ty (hk t (tyName_mem ht)), kz w1 _ (Le.refl w1) R1 rfl⟩
    · cases ez
end
end SM

/-! SMTst: tests, and, or, not, if-expressions, chains, calls. -/
namespace SM
open PySem (Str Expr Pos Operator CmpOp)
open L2 hiding St tB tAnd tOr tNot
section
variable {K : Frag} {mg : Mg} {w w0 w1 w2 : Rw} {h h' : Heap}
theorem tB_cut {W : WX} {f : E} : ∀ σ H Q, tT K mg W (tB f) σ H Q → tE K mg W f σ H (fun x H' => ∃ k, x = .bl k ∧ Q k H') := fun σ H Q ⟨w, r, h, e, R, k⟩ => by
  subst e
  refine ⟨w, r, h, rfl, R, EK.cutT (fun x h1 w1 v1 l1 R1 q1 k1 => ?_) k⟩
  split at k1
  · rename_i b
    have e1 : v1 = .bl b := q1
    subst e1
    exact ⟨b, rfl, k1 w1 (Le.refl w1) R1⟩
  · exact k1.elim
end
section
variable {X : Cx} {W : WX} {pos : Pos} {a b c : Expr} {fa fb fc : E} {ga gb : T} {es rest : List Expr} {fs : A}
/-- a comparison as a test -/
theorem st_cmp {op : CmpOp} {f : F2} {r2 : R2} (ho : OpR X (PySem.compareOp op) r2) (hf : F2Ok X.K X.mg f r2) (hm : PySem.behindInMarks op b = false) (ha : PEs X W a fa) (hb : PEs X W b fb) : PTs' X W (.Compare a [op] [b] pos) (tB (e2 f fa fb)) :=
  PT.weak (pt_cmpR ho ha hb hm) fun σ H Q k => e2_cut hf σ H _ (tB_cut σ H Q k)
theorem st_lt (ha : PEs X W a fa) (hb : PEs X W b fb) : PTs' X W (.Compare a [.Lt] [b] pos) (tB (e2 fLt fa fb)) := st_cmp op_lt (fI0_ok fun _ _ _ => rfl) (nomark _) ha hb
theorem st_le (ha : PEs X W a fa) (hb : PEs X W b fb) : PTs' X W (.Compare a [.LtE] [b] pos) (tB (e2 fLe fa fb)) := st_cmp op_le (fI0_ok fun _ _ _ => rfl) (nomark _) ha hb
theorem st_gt (ha : PEs X W a fa) (hb : PEs X W b fb) : PTs' X W (.Compare a [.Gt] [b] pos) (tB (e2 fGt fa fb)) := st_cmp op_gt (fI0_ok fun _ _ _ => rfl) (nomark _) ha hb
theorem st_ge (ha : PEs X W a fa) (hb : PEs X W b fb) : PTs' X W (.Compare a [.GtE] [b] pos) (tB (e2 fGe fa fb)) := st_cmp op_ge (fI0_ok fun _ _ _ => rfl) (nomark _) ha hb
theorem st_eq (hu : X.A.units + 64 < PySem.cLine) (ha : PEs X W a fa) (hb : PEs X W b fb) : PTs' X W (.Compare a [.Eq] [b] pos) (tB (e2 (fEq false) fa fb)) := st_cmp (op_eqD hu) fEq_ok (nomark _) ha hb
theorem st_ne (hu : X.A.units + 64 < PySem.cLine) (ha : PEs X W a fa) (hb : PEs X W b fb) : PTs' X W (.Compare a [.NotEq] [b] pos) (tB (e2 (fEq true) fa fb)) := st_cmp (op_neD hu) fNe_ok (nomark _) ha hb
theorem st_in (ha : PEs X W a fa) (hb : PEs X W b fb) (hm : PySem.behindInMarks .In b = false := by rfl) : PTs' X W (.Compare a [.In] [b] pos) (tB (e2 (fIn false) fa fb)) := st_cmp (op_in_sign.or op_in_seq) (fIn_ok (neg := false)) hm ha hb
theorem st_nin (ha : PEs X W a fa) (hb : PEs X W b fb) (hm : PySem.behindInMarks .NotIn b = false := by rfl) : PTs' X W (.Compare a [.NotIn] [b] pos) (tB (e2 (fIn true) fa fb)) := st_cmp (op_notIn_sign.or op_notIn_seq) (fIn_ok (neg := true)) hm ha hb
/-- an expression whose value is a bool -/
theorem st_val (ha : PEs X W a fa) (he : ∀ whole, PySem.isTrue a X.env whole = (do let v ← whole; PySem.standAt a.pos; PySem.holding [v] (PySem.truthy v)) := by intro _; rfl) : PTs' X W a (tB fa) :=
  PT.weak (pt_val ha he) fun σ H Q k => tB_cut σ H Q k
/-- comparisons by is, as tests -/
theorem st_is {op : CmpOp} (hp : ∀ {t : TE}, PE X (.Compare a [op] [b] pos) t → PT X (.Compare a [op] [b] pos) (L2.tB t)) (ha : PEs X W (.Compare a [op] [b] pos) fa) : PTs' X W (.Compare a [op] [b] pos) (tB fa) :=
  PT.weak (hp ha) fun σ H Q k => tB_cut σ H Q k
/-- truth of any value -/
theorem st_tru (ha : PEs X W a fa) (he : ∀ whole, PySem.isTrue a X.env whole = (do let v ← whole; PySem.standAt a.pos; PySem.holding [v] (PySem.truthy v)) := by intro _; rfl) : PTs' X W a (tTru fa) :=
  PT.weak (pt_truth ha he) fun σ H Q ⟨w, r, h, e, R, k⟩ => by
    subst e
    refine ⟨w, r, h, rfl, R, EK.cutT (fun x h1 w1 v1 l1 R1 q1 k1 => ?_) k⟩
    cases ht : truth h1 x with
    | none =>
      rw [ht] at k1
      exact k1.elim
    | some c =>
      rw [ht] at k1
      exact ⟨c, truth_ok R1 q1 ht, k1 w1 (Le.refl w1) R1⟩
abbrev PWs (X : Cx) (W : WX) (e : Expr) (f : T) : Prop := PW X e (tT X.K X.mg W f)
theorem sw_and1 (ha : PTs' X W a ga) : PWs X W (.BoolOp .And [a] pos) ga := pw_and1 ha
theorem sw_or1 (ha : PTs' X W a ga) : PWs X W (.BoolOp .Or [a] pos) ga := pw_or1 ha
theorem tAnd_cut {K : Frag} {mg : Mg} : ∀ σ H Q, tT K mg W (tAnd ga gb) σ H Q → L2.tAnd (tT K mg W ga) (tT K mg W gb) σ H Q := fun σ H Q ⟨w, r, h, e, R, k⟩ => by
  subst e
  refine ⟨w, r, h, rfl, R, TK.cutT (fun c h1 w1 l1 R1 k1 => ?_) k⟩
  cases c with
  | true =>
    rw [if_pos rfl] at k1 ⊢
    exact ⟨w1, r, h1, rfl, R.le l1 R1, k1⟩
  | false =>
    rw [if_neg Bool.false_ne_true] at k1 ⊢
    exact k1 w1 (Le.refl w1) R1
theorem tOr_cut {K : Frag} {mg : Mg} : ∀ σ H Q, tT K mg W (tOr ga gb) σ H Q → L2.tOr (tT K mg W ga) (tT K mg W gb) σ H Q := fun σ H Q ⟨w, r, h, e, R, k⟩ => by
  subst e
  refine ⟨w, r, h, rfl, R, TK.cutT (fun c h1 w1 l1 R1 k1 => ?_) k⟩
  cases c with
  | true =>
    rw [if_pos rfl] at k1 ⊢
    exact k1 w1 (Le.refl w1) R1
  | false =>
    rw [if_neg Bool.false_ne_true] at k1 ⊢
    exact ⟨w1, r, h1, rfl, R.le l1 R1, k1⟩
theorem sw_and (ha : PTs' X W a ga) (hb : PWs X W (.BoolOp .And (b :: rest) pos) gb) : PWs X W (.BoolOp .And (a :: b :: rest) pos) (tAnd ga gb) := PW.weak (pw_and ha hb) tAnd_cut
theorem sw_or (ha : PTs' X W a ga) (hb : PWs X W (.BoolOp .Or (b :: rest) pos) gb) : PWs X W (.BoolOp .Or (a :: b :: rest) pos) (tOr ga gb) := PW.weak (pw_or ha hb) tOr_cut
theorem st_not (ha : PTs' X W a ga) : PTs' X W (.UnaryOp .Not a pos) (tNot ga) := PT.weak (pt_not ha) fun σ H Q ⟨w, r, h, e, R, k⟩ => by
  subst e
  exact ⟨w, r, h, rfl, R, TK.cutT (f := fun c h => .ok (!c) h) (fun c h1 w1 l1 R1 k1 => k1 w1 (Le.refl w1) R1) k⟩
/-- as values -/
theorem s_one {op : PySem.BoolOp} (ha : PEs X W a fa) : PEs X W (.BoolOp op [a] pos) fa := pe_one ha
theorem s_andV (ha : PEs X W a fa) (hb : PEs X W (.BoolOp .And (b :: rest) pos) fb) : PEs X W (.BoolOp .And (a :: b :: rest) pos) (eAnd fa fb) := PE.weak (pe_andT ha hb) fun σ H Q ⟨w, r, h, e, R, k⟩ => by
  subst e
  refine ⟨w, r, h, rfl, R, EK.cut0 (fun x h1 w1 v1 l1 R1 q1 k1 => ?_) k⟩
  split at k1
  · rename_i ht
    refine ⟨true, truth_ok R1 q1 ht, ?_⟩
    rw [if_pos rfl]
    exact ⟨w1, r, h1, rfl, R.le l1 R1, EK.le l1 k1⟩
  · rename_i ht
    refine ⟨false, truth_ok R1 q1 ht, ?_⟩
    rw [if_neg Bool.false_ne_true]
    exact k1 w1 v1 l1 R1 q1
  · exact k1.elim
theorem s_orV (ha : PEs X W a fa) (hb : PEs X W (.BoolOp .Or (b :: rest) pos) fb) : PEs X W (.BoolOp .Or (a :: b :: rest) pos) (eOr fa fb) := PE.weak (pe_orT ha hb) fun σ H Q ⟨w, r, h, e, R, k⟩ => by
  subst e
  refine ⟨w, r, h, rfl, R, EK.cut0 (fun x h1 w1 v1 l1 R1 q1 k1 => ?_) k⟩
  split at k1
  · rename_i ht
    refine ⟨true, truth_ok R1 q1 ht, ?_⟩
    rw [if_pos rfl]
    exact k1 w1 v1 l1 R1 q1
  · rename_i ht
    refine ⟨false, truth_ok R1 q1 ht, ?_⟩
    rw [if_neg Bool.false_ne_true]
    exact ⟨w1, r, h1, rfl, R.le l1 R1, EK.le l1 k1⟩
  · exact k1.elim
theorem s_notV (ha : PEs X W a fa) : PEs X W (.UnaryOp .Not a pos) (eNot fa) := PE.weak (pe_notT ha) fun σ H Q ⟨w, r, h, e, R, k⟩ => by
  subst e
  refine ⟨w, r, h, rfl, R, EK.cut (fun x h1 w1 v1 l1 R1 q1 k1 => ?_) k⟩
  split at k1
  · rename_i c ht
    exact ⟨c, truth_ok R1 q1 ht, k1 w1 _ (Le.refl w1) R1 rfl⟩
  · exact k1.elim
theorem s_if (hc : PTs' X W c ga) (ha : PEs X W a fa) (hb : PEs X W b fb) : PEs X W (.IfExp c a b pos) (eIf ga fa fb) := PE.weak (pe_ifExp hc ha hb) fun σ H Q ⟨w, r, h, e, R, k⟩ => by
  subst e
  refine ⟨w, r, h, rfl, R, TK.cut (fun c h1 w1 l1 R1 k1 => ?_) k⟩
  cases c with
  | true =>
    rw [if_pos rfl] at k1 ⊢
    exact ⟨w1, r, h1, rfl, R.le l1 R1, k1⟩
  | false =>
    rw [if_neg Bool.false_ne_true] at k1 ⊢
    exact ⟨w1, r, h1, rfl, R.le l1 R1, k1⟩
theorem chain_cut {K : Frag} {mg : Mg} {f g : F2} {r r' : R2} (hf : F2Ok K mg f r) (hg : F2Ok K mg g r') : ∀ σ H Q, tE K mg W (eChain f g fa fb fc) σ H Q → tChain r r' (tE K mg W fa) (tE K mg W fb) (tE K mg W fc) σ H Q := fun σ H Q ⟨w, r, h, e, R, k⟩ => by
  subst e
  refine ⟨w, r, h, rfl, R, EK.cut (fun x h1 w1 v1 l1 R1 q1 k1 => ?_) k⟩
  refine ⟨w1, r, h1, rfl, R.le l1 R1, EK.cut (fun y h2 w2 v2 l2 R2 q2 k2 => ?_) k1⟩
  split at k2
  · rename_i ez
    refine hf w2 w w1 h2 x y _ v1 v2 _ R2 (q1.le R1 l2) q2 ez fun w3 v3 l3 R3 q3 => ?_
    have e3 : v3 = .bl true := q3
    subst e3
    refine ⟨true, rfl, ?_⟩
    rw [if_pos rfl]
    refine ⟨w3, r, h2, rfl, ((R.le l1 R1).le l2 R2).le l3 R3, EK.cut (fun z h4 w4 v4 l4 R4 q4 k4 => ?_) (EK.le l3 k2)⟩
    obtain ⟨u, eu, ku⟩ := opt_cut k4
    exact hg w4 w1 w3 h4 y z u v2 v4 Q R4 ((q2.le R2 l3).le R3 l4) q4 eu ku
  · rename_i ez
    refine hf w2 w w1 h2 x y _ v1 v2 _ R2 (q1.le R1 l2) q2 ez fun w3 v3 l3 R3 q3 => ?_
    have e3 : v3 = .bl false := q3
    subst e3
    refine ⟨false, rfl, ?_⟩
    rw [if_neg Bool.false_ne_true]
    exact k2 w3 _ l3 R3 rfl
  · exact k2.elim
theorem s_chain {op op' : CmpOp} {f g : F2} {r r' : R2} (ho : OpR X (PySem.compareOp op) r) (ho' : OpR X (PySem.compareOp op') r') (hf : F2Ok X.K X.mg f r) (hg : F2Ok X.K X.mg g r') (ha : PEs X W a fa) (hb : PEs X W b fb) (hc : PEs X W c fc)
    (hm : PySem.lastMarks [op, op'] [b, c] = false := by with_unfolding_all rfl) : PEs X W (.Compare a [op, op'] [b, c] pos) (eChain f g fa fb fc) := PE.weak (pe_chain ho ho' ha hb hc hm) (chain_cut hf hg)
theorem st_chain {op op' : CmpOp} {f g : F2} {r r' : R2} (ho : OpR X (PySem.compareOp op) r) (ho' : OpR X (PySem.compareOp op') r') (hf : F2Ok X.K X.mg f r) (hg : F2Ok X.K X.mg g r') (ha : PEs X W a fa) (hb : PEs X W b fb) (hc : PEs X W c fc)
    (hm : PySem.lastMarks [op, op'] [b, c] = false := by with_unfolding_all rfl) : PTs' X W (.Compare a [op, op'] [b, c] pos) (tB (eChain f g fa fb fc)) := PT.weak (pt_chain ho ho' ha hb hc hm) fun σ H Q k => chain_cut hf hg σ H _ (tB_cut σ H Q k)
theorem f_lt {K : Frag} {mg : Mg} : F2Ok K mg fLt (rI0 fun i j => .bl (decide (i < j))) := fI0_ok fun _ _ _ => rfl
theorem f_le {K : Frag} {mg : Mg} : F2Ok K mg fLe (rI0 fun i j => .bl (decide (i ≤ j))) := fI0_ok fun _ _ _ => rfl
theorem f_gt {K : Frag} {mg : Mg} : F2Ok K mg fGt (rI0 fun i j => .bl (decide (j < i))) := fI0_ok fun _ _ _ => rfl
theorem f_ge {K : Frag} {mg : Mg} : F2Ok K mg fGe (rI0 fun i j => .bl (decide (j ≤ i))) := fI0_ok fun _ _ _ => rfl

/-! ### a module's constant that is data; a def's call -/
theorem s_glob {x : Str} {y : Val} {v : V} {u : PySem.Value} (hg : Gl X x) (hm : X.mg x = some u) (rv : RelV v u) (ry : ∀ w, RVal X.K w y v) (hd : (x == ("__debug__" : Str)) = false := by decide) : PEs X W (.Name x pos) (eC y) :=
  PE.weak (pe_glob hg hm rv hd) fun σ H Q ⟨w, r, h, e, R, k⟩ => by
    subst e
    exact k w _ (Le.refl w) R.hp (ry w)
/-- a def's promise: it gives what ours gives -/
def FK (K : Frag) (mg : Mg) (w : Rw) (Q : VK) (Ex : XK) : EO RV → Prop
  | .ok x h => ∀ w' v, Le w w' → RHp K mg w' h → RRes K w w' x v → Q v w'.H
  | .ex e h => ∀ w' cls d, Le w w' → RHp K mg w' h → RExn K mg w' e cls d → Ex cls d w'.H
  | .no => False
def spF (K : Frag) (mg : Mg) (n : Nat) (f : Fn) : Sp := fun vs H Q Ex => ∃ w h rs, w.H = H ∧ RHp K mg w h ∧ RArgs K w rs vs ∧ vs.length = n ∧ FK K mg w Q Ex (f rs h)
theorem call_cut {K : Frag} {mg : Mg} {n : Nat} {f : Fn} (hn : ∀ r h xs h1, fs r h = .ok xs h1 → xs.length = n) : ∀ σ H Q, tE K mg W (eCall f fs) σ H Q → tCallSD (spF K mg n f) [] (WE W) (tA K mg W fs) σ H Q := fun σ H Q ⟨w, r, h, e, R, k⟩ => by
  subst e
  refine ⟨w, r, h, rfl, R, ?_⟩
  have k : EK K mg W w σ Q ((fs r h).bind f) := k
  cases he : fs r h with
  | no =>
    rw [he] at k
    exact k.elim
  | ex e h1 =>
    rw [he] at k
    exact k
  | ok xs h1 =>
    rw [he] at k
    intro w' vs l R1 q1
    have hl : xs.length = vs.length := by
      have : ∀ {xs : List RV} {vs : List V}, RArgs K w' xs vs → xs.length = vs.length := by
        intro xs
        induction xs with
        | nil => intro vs q; have e : vs = [] := q; subst e; rfl
        | cons x xs ih => intro vs ⟨v, r, e, _, q⟩; subst e; rw [List.length_cons, List.length_cons, ih q]
      exact this q1
    refine ⟨w', h1, xs, rfl, R1, by rw [List.append_nil]; exact q1, by rw [List.append_nil, ← hl]; exact hn r h xs h1 he, ?_⟩
    have k2 : EK K mg W w σ Q (f xs h1) := k
    have k3 := EK.le l k2
    cases hf : f xs h1 with
    | no =>
      rw [hf] at k3
      exact k3.elim
    | ok x h2 =>
      rw [hf] at k3
      exact k3
    | ex e h2 =>
      rw [hf] at k3
      exact fun w'' cls d l2 R2 q2 => k3 w'' cls d l2 R2 q2
theorem aNil_len {r : Env} {h h1 : Heap} {xs : List RV} (e : aNil r h = .ok xs h1) : xs.length = 0 := by
  cases e
  rfl
theorem aCons_len {n : Nat} (hn : ∀ r h xs h1, fs r h = .ok xs h1 → xs.length = n) : ∀ r h xs h1, aCons fa fs r h = .ok xs h1 → xs.length = n + 1 := fun r h xs h1 e => by
  unfold aCons at e
  cases ha : fa r h with
  | no => rw [ha] at e; cases e
  | ex _ _ => rw [ha] at e; cases e
  | ok x h2 =>
    rw [ha] at e
    have e : (fs r h2).bind (fun xs h2 => .ok (x.arg :: xs) h2) = .ok xs h1 := e
    cases hb : fs r h2 with
    | no => rw [hb] at e; cases e
    | ex _ _ => rw [hb] at e; cases e
    | ok ys h3 =>
      rw [hb] at e
      cases e
      rw [List.length_cons, hn r h2 ys _ hb]
end
end SM

/-! SMStm: statements. -/
namespace SM
open PySem (Str Expr Stmt Pos Operator CmpOp)
open L2 hiding St tB tAnd tOr tNot
/-- from one world to a later one, our objects and the lists at M may have changed -/
structure LeS (M : Addr → Prop) (w w' : Rw) : Prop where
  n : w.n ≤ w'.n
  io : ∀ k, k < w.n → w'.io k = w.io k
  keep : ∀ b o, w.H b = some o → w.out b → ¬ M b → w'.H b = some o
  there : ∀ b o, w.H b = some o → ∃ o', w'.H b = some o'
  P : ∀ b o, w.H b = some o → w'.P b → w.P b
  P2 : ∀ b o, w.H b = some o → ¬ M b → w.P b → w'.P b
  new : ∀ k, w.n ≤ k → k < w'.n → w.H (w'.io k) = none
section
variable {K : Frag} {mg : Mg} {w w0 w1 w2 : Rw} {h h' : Heap} {a : Addr} {M M0 M1 : Addr → Prop} {r : Env} {σ : L2.St}
theorem Le.s (l : Le w w1) : LeS M w w1 := ⟨l.n, l.io, fun b o e u _ => l.keep b o e u, l.there, fun b o e => (l.P b o e).mp, fun b o e _ => (l.P b o e).mpr, l.new⟩
theorem LeS.refl : LeS M w w := (Le.refl w).s
theorem LeS.fresh (l : LeS M w w1) {b : Addr} (e : w1.H b = none) : w.H b = none := by
  cases q : w.H b with
  | none => rfl
  | some o =>
    obtain ⟨o', q'⟩ := l.there b o q
    rw [e] at q'
    cases q'
theorem LeS.out (l : LeS M w w1) {b : Addr} {o : HO} (e : w.H b = some o) (u : w.out b) : w1.out b := fun k hk z => by
  by_cases h1 : k < w.n
  · rw [l.io k h1] at z
    exact u k h1 z
  · have := l.new k (Nat.not_lt.mp h1) hk
    rw [z, e] at this
    cases this
theorem LeS.trans (l : LeS M0 w w1) (m : LeS M1 w1 w2) (hM : ∀ b, M1 b → M0 b ∨ w.H b = none) : LeS M0 w w2 where
  n := Nat.le_trans l.n m.n
  io := fun k hk => (m.io k (Nat.lt_of_lt_of_le hk l.n)).trans (l.io k hk)
  keep := fun b o e u z => m.keep b o (l.keep b o e u z) (l.out e u) fun q => (hM b q).elim z fun q => by rw [e] at q; cases q
  there := fun b o e => by
    obtain ⟨o1, e1⟩ := l.there b o e
    exact m.there b o1 e1
  P := fun b o e z => by
    obtain ⟨o1, e1⟩ := l.there b o e
    exact l.P b o e (m.P b o1 e1 z)
  P2 := fun b o e z p => by
    obtain ⟨o1, e1⟩ := l.there b o e
    exact m.P2 b o1 e1 (fun q => (hM b q).elim z fun q => by rw [e] at q; cases q) (l.P2 b o e z p)
  new := fun k h1 h2 => by
    by_cases h3 : k < w1.n
    · rw [m.io k h3]
      exact l.new k h1 h3
    · exact l.fresh (m.new k (Nat.not_lt.mp h3) h2)
theorem LeS.le (l : LeS M0 w w1) (m : Le w1 w2) : LeS M0 w w2 := l.trans (M1 := fun _ => False) m.s fun _ z => z.elim
theorem rd_keepS (l : LeS M w w1) {u : HO} (q : Rd w.H a u) (ho : w.out a) (hm : ¬ M a) : Rd w1.H a u := by
  rcases q with q | ⟨o, q⟩
  · exact .inl (l.keep _ _ q ho hm)
  · exact .inr ⟨o, l.keep _ _ q ho hm⟩
theorem STup.leS (R : RHp K mg w h) (hM : ∀ b, M b → w.P b) (l : LeS M w w1) {xs : List V} (q : STup K w a xs) : STup K w1 a xs := by
  rcases q with ⟨q, p⟩ | q
  · refine .inl ⟨rd_keepS l q (R.outP p) fun z => p (hM a z), fun z => p ?_⟩
    obtain ⟨o, e⟩ := rd_some q
    exact l.P a o e z
  · exact .inr q
theorem SLst.leS (R : RHp K mg w h) (hM : ∀ b, M b → w.P b) (l : LeS M w w1) {xs : List V} (q : SLst K w a xs) : SLst K w1 a xs := by
  rcases q with ⟨q, p⟩ | q
  · refine .inl ⟨rd_keepS l q (R.outP p) fun z => p (hM a z), fun z => p ?_⟩
    obtain ⟨o, e⟩ := rd_some q
    exact l.P a o e z
  · exact .inr q
theorem SRo.leS (R : RHp K mg w h) (hM : ∀ b, M b → w.P b) (l : LeS M w w1) {xs : List V} (q : SRo w a xs) : SRo w1 a xs :=
  ⟨l.keep a _ q.1 (R.outP q.2) fun z => q.2 (hM a z), fun z => q.2 (l.P a _ q.1 z)⟩
theorem SErr.leS (R : RHp K mg w h) (hM : ∀ b, M b → w.P b) (l : LeS M w w1) {ys : List V} (q : SErr w a ys) : SErr w1 a ys := fun y t e => ⟨l.keep a _ (q y t e).1 (R.outP (q y t e).2) fun z => (q y t e).2 (hM a z), fun z => (q y t e).2 (l.P a _ (q y t e).1 z)⟩
mutual
theorem RVal.leS (R : RHp K mg w h) (hM : ∀ b, M b → w.P b) (l : LeS M w w1) : ∀ {x : Val} {v : V}, RVal K w x v → RVal K w1 x v
  | .none, _, q => q
  | .bool _, _, q => q
  | .int _, _, q => q
  | .str _, _, q => q
  | .tup _, _, ⟨a, xs, e, s, q⟩ => ⟨a, xs, e, s.leS R hM l, RVals.leS R hM l q⟩
  | .ro _, _, ⟨a, xs, e, s, q⟩ => ⟨a, xs, e, s.leS R hM l, RVals.leS R hM l q⟩
  | .scr _, _, ⟨a, xs, e, s, q⟩ => ⟨a, xs, e, s.leS R hM l, RVals.leS R hM l q⟩
  | .obj k, _, ⟨hk, e⟩ => ⟨Nat.lt_of_lt_of_le hk l.n, by rw [l.io k hk]; exact e⟩
  | .err _ _ _, _, ⟨e, ys, s, q⟩ => ⟨e, ys, s.leS R hM l, RVals.leS R hM l q⟩
theorem RVals.leS (R : RHp K mg w h) (hM : ∀ b, M b → w.P b) (l : LeS M w w1) : ∀ {xs : List Val} {vs : List V}, RVals K w xs vs → RVals K w1 xs vs
  | [], _, q => q
  | _ :: _, _, ⟨y, ys, e, q1, q2⟩ => ⟨y, ys, e, RVal.leS R hM l q1, RVals.leS R hM l q2⟩
end

/-- a state behind a statement; w0, M0: an earlier world, and the lists that were one's own there -/
structure RelS (K : Frag) (mg : Mg) (w0 : Rw) (M0 : Addr → Prop) (w : Rw) (r : Env) (h : Heap) (σ : L2.St) : Prop where
  rel : Rel K mg w r h σ
  le : LeS M0 w0 w
  fr : ∀ a, owns r σ a → M0 a ∨ w0.H a = none
def SK (K : Frag) (mg : Mg) (W : WX) (w0 : Rw) (M0 : Addr → Prop) (D : Ends) : SO → Prop
  | .nx r h => ∀ w σ, RelS K mg w0 M0 w r h σ → D.nx σ w.H
  | .rt x h => ∀ w v, LeS M0 w0 w → RHp K mg w h → RRes K w0 w x v → D.rt v w.H
  | .bk r h => ∀ w σ, RelS K mg w0 M0 w r h σ → D.bk σ w.H
  | .ct r h => ∀ w σ, RelS K mg w0 M0 w r h σ → D.ct σ w.H
  | .ex e r h => ∀ w σ cls d, RelS K mg w0 M0 w r h σ → RExn K mg w e cls d → W cls d σ w.H
  | .no => False
def tS (K : Frag) (mg : Mg) (W : WX) (w0 : Rw) (M0 : Addr → Prop) (f : S) : TS := fun D σ H => ∃ w r h, w.H = H ∧ RelS K mg w0 M0 w r h σ ∧ SK K mg W w0 M0 D (f r h)
theorem RelS.le' (R : RelS K mg w0 M0 w r h σ) (l : Le w w1) (q : RHp K mg w1 h') : RelS K mg w0 M0 w1 r h' σ := ⟨R.rel.le l q, R.le.le l, R.fr⟩
theorem RRes.backS {x : RV} {v : V} (l : LeS M w0 w) (q : RRes K w w1 x v) : RRes K w0 w1 x v := by
  cases x with
  | v x => exact q
  | own xs =>
    obtain ⟨a, ys, e, e0, e1, q, p, u⟩ := q
    exact ⟨a, ys, e, l.fresh e0, e1, q, p, u⟩
  | view xs => exact q
theorem SK.cut {W : WX} {D : Ends} {Q' : VK} {f : RV → Heap → SO} (R : RelS K mg w0 M0 w r h σ) (c : ∀ x h1 w1 v1, Le w w1 → RHp K mg w1 h1 → RRes K w w1 x v1 → SK K mg W w0 M0 D (f x h1) → Q' v1 w1.H) :
    ∀ {o : EO RV}, SK K mg W w0 M0 D (o.then r f) → EK K mg W w σ Q' o
  | .ok x h, k => fun w' v l hp q => c x h w' v l hp q k
  | .ex e h, k => fun w' cls d l hp q => k w' σ cls d (R.le' l hp) q
  | .no, k => k
theorem SK.cutT {W : WX} {D : Ends} {Q' : Bool → Hp → Prop} {f : Bool → Heap → SO} (R : RelS K mg w0 M0 w r h σ) (c : ∀ x h1 w1, Le w w1 → RHp K mg w1 h1 → SK K mg W w0 M0 D (f x h1) → Q' x w1.H) :
    ∀ {o : EO Bool}, SK K mg W w0 M0 D (o.then r f) → TK K mg W w σ Q' o
  | .ok x h, k => fun w' l hp => c x h w' l hp k
  | .ex e h, k => fun w' cls d l hp q => k w' σ cls d (R.le' l hp) q
  | .no, k => k
/-- the result is kept: it stands for good from now on -/
theorem RRes.keep {s : Rw} {x : RV} {v : V} {y : Val} (R : RHp K mg w h) (l : Le s w) (q : RRes K s w x v) (e : x.keep = some y) : ∃ w', w'.H = w.H ∧ Le s w' ∧ RHp K mg w' h ∧ RVal K w' y v := by
  obtain ⟨w', eH, l', R', q', _⟩ := q.arg R l
  refine ⟨w', eH, l', R', ?_⟩
  cases x with
  | v x =>
    have e : some x = some y := e
    cases e
    exact q'
  | own xs =>
    have e : some (Val.ro xs) = some y := e
    cases e
    exact q'
  | view xs => cases e

/-! ### a slot is set -/
theorem owns_set {i : Nat} {x : Val} {v : V} {b : Addr} (o : owns (r.set i (some (.v x))) (σ.set i (some v)) b) : owns r σ b := by
  obtain ⟨j, xs, e1, e2⟩ := o
  by_cases hj : i = j
  · subst hj
    rw [List.getElem?_set] at e1
    split at e1
    · split at e1
      · have e3 : RV.v x = RV.own xs := Option.some.inj (Option.some.inj e1)
        cases e3
      · cases e1
    · rename_i hn
      exact absurd rfl hn
  · rw [List.getElem?_set_ne hj] at e1 e2
    exact ⟨j, xs, e1, e2⟩
theorem RelS.set_v (R : RelS K mg w0 M0 w r h σ) {i : Nat} {x : Val} {v : V} (q : RVal K w x v) : RelS K mg w0 M0 w (r.set i (some (.v x))) h (σ.set i (some v)) := by
  refine ⟨⟨R.rel.hp, by rw [List.length_set, List.length_set]; exact R.rel.len, fun j y e => ?_, fun j k xs ys a e1 e2 e3 e4 => ?_⟩, R.le, fun a o => R.fr a (owns_set o)⟩
  · by_cases hj : i = j
    · subst hj
      have hlt : i < r.length := by
        have := (List.getElem?_eq_some_iff.mp e).1
        rw [List.length_set] at this
        exact this
      rw [List.getElem?_set_self hlt] at e
      have e : RV.v x = y := Option.some.inj (Option.some.inj e)
      subst e
      exact ⟨v, List.getElem?_set_self (by rw [R.rel.len]; exact hlt), q⟩
    · rw [List.getElem?_set_ne hj] at e
      obtain ⟨u, e1, s⟩ := R.rel.sl j y e
      refine ⟨u, by rw [List.getElem?_set_ne hj]; exact e1, ?_⟩
      cases y with
      | v y => exact s
      | own ys => exact s
      | view ys =>
        obtain ⟨a, zs, e2, ⟨s1, s2⟩, q2⟩ := s
        exact ⟨a, zs, e2, ⟨s1, fun o => s2 (owns_set o)⟩, q2⟩
  · have back : ∀ {j : Nat} {zs : List Val} {a : Addr}, (r.set i (some (.v x)))[j]? = some (some (.own zs)) → (σ.set i (some v))[j]? = some (some (.ref a)) → r[j]? = some (some (.own zs)) ∧ σ[j]? = some (some (.ref a)) := by
      intro j zs a e1 e3
      by_cases hj : i = j
      · subst hj
        rw [List.getElem?_set] at e1
        split at e1
        · split at e1
          · have e5 : RV.v x = RV.own zs := Option.some.inj (Option.some.inj e1)
            cases e5
          · cases e1
        · rename_i hn
          exact absurd rfl hn
      · rw [List.getElem?_set_ne hj] at e1 e3
        exact ⟨e1, e3⟩
    obtain ⟨f1, f3⟩ := back e1 e3
    obtain ⟨f2, f4⟩ := back e2 e4
    exact R.rel.own1 j k xs ys a f1 f2 f3 f4
theorem RelS.tracked (R : RelS K mg w0 M0 w r h σ) {i : Nat} {a : Addr} {x : RV} (e1 : r[i]? = some (some x)) (e2 : σ[i]? = some (some (.ref a))) (hx : ∀ y, x ≠ .v y) : ∃ o, w.H a = some o := by
  obtain ⟨v, e3, s⟩ := R.rel.sl i x e1
  rw [e2] at e3
  cases e3
  cases x with
  | v y => exact absurd rfl (hx y)
  | own ys =>
    obtain ⟨b, zs, e, e1, _⟩ := s
    cases e
    exact ⟨_, e1⟩
  | view ys =>
    obtain ⟨b, zs, e, s, _⟩ := s
    cases e
    exact ⟨_, s.1.1⟩
theorem RelS.set_own (R : RelS K mg w0 M0 w r h σ) (l : Le w w1) (R1 : RHp K mg w1 h') {i : Nat} {xs : List Val} {v : V} (q : RRes K w w1 (.own xs) v) : RelS K mg w0 M0 w1 (r.set i (some (.own xs))) h' (σ.set i (some v)) := by
  have R2 := R.le' l R1
  obtain ⟨a, ys, e, e0, e1, q1, p, u⟩ := q
  subst e
  have ow : ∀ b, owns (r.set i (some (.own xs))) (σ.set i (some (.ref a))) b → owns r σ b ∨ b = a := by
    rintro b ⟨j, zs, f1, f2⟩
    by_cases hj : i = j
    · subst hj
      have hlt : i < σ.length := by
        have := (List.getElem?_eq_some_iff.mp f2).1
        rw [List.length_set] at this
        exact this
      rw [List.getElem?_set_self hlt] at f2
      have : V.ref a = V.ref b := Option.some.inj (Option.some.inj f2)
      cases this
      exact .inr rfl
    · rw [List.getElem?_set_ne hj] at f1 f2
      exact .inl ⟨j, zs, f1, f2⟩
  have ne : ∀ {j : Nat} {x : RV} {b : Addr}, r[j]? = some (some x) → σ[j]? = some (some (.ref b)) → (∀ y, x ≠ .v y) → b ≠ a := by
    intro j x b f1 f2 f3 z
    obtain ⟨o, eo⟩ := R.tracked f1 f2 f3
    rw [z, e0] at eo
    cases eo
  refine ⟨⟨R1, by rw [List.length_set, List.length_set]; exact R.rel.len, fun j y f => ?_, fun j k zs us b f1 f2 f3 f4 => ?_⟩, R2.le, fun b o => ?_⟩
  · by_cases hj : i = j
    · subst hj
      have hlt : i < r.length := by
        have := (List.getElem?_eq_some_iff.mp f).1
        rw [List.length_set] at this
        exact this
      rw [List.getElem?_set_self hlt] at f
      have f : RV.own xs = y := Option.some.inj (Option.some.inj f)
      subst f
      exact ⟨.ref a, List.getElem?_set_self (by rw [R.rel.len]; exact hlt), a, ys, rfl, e1, q1, p, u⟩
    · rw [List.getElem?_set_ne hj] at f
      obtain ⟨v, f1, s⟩ := R2.rel.sl j y f
      refine ⟨v, by rw [List.getElem?_set_ne hj]; exact f1, ?_⟩
      cases y with
      | v y => exact s
      | own ys => exact s
      | view vs =>
        obtain ⟨b, zs, e2, ⟨s1, s2⟩, q2⟩ := s
        subst e2
        refine ⟨b, zs, rfl, ⟨s1, fun o => ?_⟩, q2⟩
        rcases ow b o with o | o
        · exact s2 o
        · exact ne f f1 (fun y z => by cases z) o
  · by_cases hj : i = j
    · by_cases hk : i = k
      · exact hj.symm.trans hk
      · subst hj
        rw [List.getElem?_set_ne hk] at f2 f4
        have hlt : i < σ.length := by
          have := (List.getElem?_eq_some_iff.mp f3).1
          rw [List.length_set] at this
          exact this
        rw [List.getElem?_set_self hlt] at f3
        have e5 : V.ref a = V.ref b := Option.some.inj (Option.some.inj f3)
        cases e5
        exact absurd rfl (ne f2 f4 fun y z => by cases z)
    · rw [List.getElem?_set_ne hj] at f1 f3
      by_cases hk : i = k
      · subst hk
        have hlt : i < σ.length := by
          have := (List.getElem?_eq_some_iff.mp f4).1
          rw [List.length_set] at this
          exact this
        rw [List.getElem?_set_self hlt] at f4
        have e5 : V.ref a = V.ref b := Option.some.inj (Option.some.inj f4)
        cases e5
        exact absurd rfl (ne f1 f3 fun y z => by cases z)
      · rw [List.getElem?_set_ne hk] at f2 f4
        exact R.rel.own1 j k zs us b f1 f2 f3 f4
  · rcases ow b o with o | o
    · exact R.fr b o
    · subst o
      exact .inr (R.le.fresh e0)

/-! ### a list of one's own changes -/
def Rw.updO (w : Rw) (l : Addr) (ys : List V) : Rw := { w with H := upd w.H l (.lst ys) }
section
variable {l : Addr} {ys : List V}
theorem STup.updO (hl : w.P l) {b : Addr} {xs : List V} (q : STup K w b xs) : STup K (w.updO l ys) b xs := by
  rcases q with ⟨q, p⟩ | q
  · have ne : b ≠ l := fun z => p (z ▸ hl)
    refine .inl ⟨?_, p⟩
    rcases q with q | ⟨o, q⟩
    · exact .inl ((upd_ne ne).trans q)
    · exact .inr ⟨o, (upd_ne ne).trans q⟩
  · exact .inr q
theorem SLst.updO (hl : w.P l) {b : Addr} {xs : List V} (q : SLst K w b xs) : SLst K (w.updO l ys) b xs := by
  rcases q with ⟨q, p⟩ | q
  · have ne : b ≠ l := fun z => p (z ▸ hl)
    refine .inl ⟨?_, p⟩
    rcases q with q | ⟨o, q⟩
    · exact .inl ((upd_ne ne).trans q)
    · exact .inr ⟨o, (upd_ne ne).trans q⟩
  · exact .inr q
theorem SRo.updO (hl : w.P l) {b : Addr} {xs : List V} (q : SRo w b xs) : SRo (w.updO l ys) b xs := ⟨(upd_ne (show b ≠ l from fun z => q.2 (z ▸ hl))).trans q.1, q.2⟩
mutual
theorem RVal.updO (hl : w.P l) : ∀ {x : Val} {v : V}, RVal K w x v → RVal K (w.updO l ys) x v
  | .none, _, q => q
  | .bool _, _, q => q
  | .int _, _, q => q
  | .str _, _, q => q
  | .tup _, _, ⟨a, xs, e, s, q⟩ => ⟨a, xs, e, s.updO hl, RVals.updO hl q⟩
  | .ro _, _, ⟨a, xs, e, s, q⟩ => ⟨a, xs, e, s.updO hl, RVals.updO hl q⟩
  | .scr _, _, ⟨a, xs, e, s, q⟩ => ⟨a, xs, e, s.updO hl, RVals.updO hl q⟩
  | .obj k, _, q => q
  | .err _ _ _, _, ⟨e, zs, s, q⟩ => ⟨e, zs, fun y t z => ⟨(upd_ne fun p => (s y t z).2 (by rw [p]; exact hl)).trans (s y t z).1, (s y t z).2⟩, RVals.updO hl q⟩
theorem RVals.updO (hl : w.P l) : ∀ {xs : List Val} {vs : List V}, RVals K w xs vs → RVals K (w.updO l ys) xs vs
  | [], _, q => q
  | _ :: _, _, ⟨y, ys, e, q1, q2⟩ => ⟨y, ys, e, RVal.updO hl q1, RVals.updO hl q2⟩
end
theorem RFs.updO (hl : w.P l) : ∀ {fs : List (Str × Val)} {gs : List (Str × V)}, RFs K w fs gs → RFs K (w.updO l ys) fs gs
  | [], _, q => q
  | (_, _) :: _, _, ⟨y, g, e, q1, q2⟩ => ⟨y, g, e, q1.updO hl, RFs.updO hl q2⟩
theorem RKs.updO (hl : w.P l) : ∀ {fs : List (L2.Key × Val)} {gs : List (L2.Key × V)}, RKs K w fs gs → RKs K (w.updO l ys) fs gs
  | [], _, q => q
  | (_, _) :: _, _, ⟨y, g, e, q1, q2⟩ => ⟨y, g, e, q1.updO hl, RKs.updO hl q2⟩
theorem RObj.updO (hl : w.P l) {o : HObj} (ha : a ≠ l) (q : RObj K mg w a o) : RObj K mg (w.updO l ys) a o := by
  cases o with
  | lst vs =>
    obtain ⟨xs, e, q⟩ := q
    exact ⟨xs, (upd_ne ha).trans e, q.updO hl⟩
  | ins c fs =>
    obtain ⟨C, dx, gs, e, c, q⟩ := q
    exact ⟨C, dx, gs, (upd_ne ha).trans e, c, q.updO hl⟩
  | dct kvs =>
    obtain ⟨gs, e, q⟩ := q
    exact ⟨gs, (upd_ne ha).trans e, q.updO hl⟩
theorem RHp.updO (R : RHp K mg w h) (hl : w.P l) (u : w.out l) : RHp K mg (w.updO l ys) h :=
  ⟨R.len, fun k o e => (R.obj k o e).updO hl (u k (by rw [← R.len]; exact (List.getElem?_eq_some_iff.mp e).1)), R.inj, R.inP, fun b hb => by
    by_cases z : b = l
    · exact ⟨.lst ys, by rw [z]; exact upd_same⟩
    · obtain ⟨o, e⟩ := R.ph b hb
      exact ⟨o, (upd_ne z).trans e⟩⟩
end
theorem RelS.upd_own {i : Nat} {l : Addr} {xs xs' : List Val} {ys' : List V} (R : RelS K mg w0 M0 w r h σ) (e1 : r[i]? = some (some (.own xs))) (e2 : σ[i]? = some (some (.ref l))) (q : RVals K w xs' ys') :
    RelS K mg w0 M0 (w.updO l ys') (r.set i (some (.own xs'))) h σ := by
  obtain ⟨v, e3, s⟩ := R.rel.sl i _ e1
  rw [e2] at e3
  cases e3
  obtain ⟨l', zs, el, eH, q0, hl, u⟩ := s
  cases el
  have hir : i < r.length := (List.getElem?_eq_some_iff.mp e1).1
  have ow : ∀ b, owns (r.set i (some (.own xs'))) σ b → owns r σ b := by
    rintro b ⟨j, us, f1, f2⟩
    by_cases hj : i = j
    · subst hj
      exact ⟨i, xs, e1, f2⟩
    · rw [List.getElem?_set_ne hj] at f1
      exact ⟨j, us, f1, f2⟩
  have hown : owns r σ l := ⟨i, xs, e1, e2⟩
  refine ⟨⟨R.rel.hp.updO hl u, by rw [List.length_set]; exact R.rel.len, fun j y f => ?_, fun j k us vs b f1 f2 f3 f4 => ?_⟩, ?_, fun b o => R.fr b (ow b o)⟩
  · by_cases hj : i = j
    · subst hj
      rw [List.getElem?_set_self hir] at f
      have f : RV.own xs' = y := Option.some.inj (Option.some.inj f)
      subst f
      exact ⟨.ref l, e2, l, ys', rfl, upd_same, q.updO hl, hl, u⟩
    · rw [List.getElem?_set_ne hj] at f
      obtain ⟨v, f1, s⟩ := R.rel.sl j y f
      refine ⟨v, f1, ?_⟩
      cases y with
      | v y => exact RVal.updO hl s
      | own us =>
        obtain ⟨b, zs, eb, s1, s2, s3, s4⟩ := s
        subst eb
        have ne : b ≠ l := fun z => by
          subst z
          exact hj (R.rel.own1 i j xs us b e1 f e2 f1)
        exact ⟨b, zs, rfl, (upd_ne ne).trans s1, s2.updO hl, s3, s4⟩
      | view us =>
        obtain ⟨b, zs, eb, ⟨s1, s2⟩, s3⟩ := s
        subst eb
        have ne : b ≠ l := fun z => by
          subst z
          exact s2 hown
        exact ⟨b, zs, rfl, ⟨⟨(upd_ne ne).trans s1.1, s1.2⟩, fun o => s2 (ow b o)⟩, s3.updO hl⟩
  · have back : ∀ {j : Nat} {us : List Val}, (r.set i (some (.own xs')))[j]? = some (some (.own us)) → ∃ us', r[j]? = some (some (.own us')) := by
      intro j us f
      by_cases hj : i = j
      · subst hj
        exact ⟨xs, e1⟩
      · rw [List.getElem?_set_ne hj] at f
        exact ⟨us, f⟩
    obtain ⟨us', g1⟩ := back f1
    obtain ⟨vs', g2⟩ := back f2
    exact R.rel.own1 j k us' vs' b g1 g2 f3 f4
  · have nl : ∀ b o, w0.H b = some o → ¬ M0 b → b ≠ l := fun b o e hm z => by
      subst z
      rcases R.fr b hown with z | z
      · exact hm z
      · rw [e] at z
        cases z
    refine ⟨R.le.n, R.le.io, fun b o e u hm => (upd_ne (nl b o e hm)).trans (R.le.keep b o e u hm), fun b o e => ?_, R.le.P, R.le.P2, R.le.new⟩
    obtain ⟨o', e'⟩ := R.le.there b o e
    by_cases z : b = l
    · exact ⟨.lst ys', by rw [z]; exact upd_same⟩
    · exact ⟨o', (upd_ne z).trans e'⟩
end

/-- a list of one's own stands for good from here on -/
theorem RelS.freeze {i : Nat} {xs : List Val} (R : RelS K mg w0 M0 w r h σ) (e1 : r[i]? = some (some (.own xs))) : ∃ w', w'.H = w.H ∧ RelS K mg w0 M0 w' (r.set i (some (.v (.ro xs)))) h σ := by
  obtain ⟨v, e2, l, ys, e3, s1, s2, s3, s4⟩ := R.rel.sl i _ e1
  subst e3
  have hir : i < r.length := (List.getElem?_eq_some_iff.mp e1).1
  have ow : ∀ b, owns (r.set i (some (.v (.ro xs)))) σ b → owns r σ b ∧ b ≠ l := by
    rintro b ⟨j, us, f1, f2⟩
    by_cases hj : i = j
    · subst hj
      rw [List.getElem?_set_self hir] at f1
      have f1 : RV.v (.ro xs) = RV.own us := Option.some.inj (Option.some.inj f1)
      cases f1
    · rw [List.getElem?_set_ne hj] at f1
      refine ⟨⟨j, us, f1, f2⟩, fun z => ?_⟩
      subst z
      exact hj (R.rel.own1 i j xs us b e1 f1 e2 f2)
  have anti : ∀ b, w.P b ∧ b ≠ l → w.P b := fun b z => z.1
  refine ⟨w.drop l, rfl, ⟨R.rel.hp.drop s4, by rw [List.length_set]; exact R.rel.len, fun j y f => ?_, fun j k us vs b f1 f2 f3 f4 => ?_⟩, ⟨R.le.n, R.le.io, R.le.keep, R.le.there, fun b o e z => R.le.P b o e z.1, fun b o e z p => ⟨R.le.P2 b o e z p, fun q => ?_⟩, R.le.new⟩, fun b o => R.fr b (ow b o).1⟩
  · by_cases hj : i = j
    · subst hj
      rw [List.getElem?_set_self hir] at f
      have f : RV.v (.ro xs) = y := Option.some.inj (Option.some.inj f)
      subst f
      exact ⟨.ref l, e2, l, ys, rfl, ⟨s1, fun z => z.2 rfl⟩, s2.antiP anti⟩
    · rw [List.getElem?_set_ne hj] at f
      obtain ⟨u, f1, s⟩ := R.rel.sl j y f
      refine ⟨u, f1, ?_⟩
      cases y with
      | v y => exact RVal.antiP anti s
      | own us =>
        obtain ⟨b, zs, eb, q1, q2, q3, q4⟩ := s
        subst eb
        exact ⟨b, zs, rfl, q1, q2.antiP anti, ⟨q3, (ow b ⟨j, us, by rw [List.getElem?_set_ne hj]; exact f, f1⟩).2⟩, q4⟩
      | view us =>
        obtain ⟨b, zs, eb, ⟨q1, q2⟩, q3⟩ := s
        exact ⟨b, zs, eb, ⟨q1, fun o => q2 (ow b o).1⟩, q3.antiP anti⟩
  · have back : ∀ {j : Nat} {us : List Val}, (r.set i (some (.v (.ro xs))))[j]? = some (some (.own us)) → r[j]? = some (some (.own us)) := by
      intro j us f
      by_cases hj : i = j
      · subst hj
        rw [List.getElem?_set_self hir] at f
        have f : RV.v (.ro xs) = RV.own us := Option.some.inj (Option.some.inj f)
        cases f
      · rw [List.getElem?_set_ne hj] at f
        exact f
    exact R.rel.own1 j k us vs b (back f1) (back f2) f3 f4
  · subst q
    rcases R.fr b ⟨i, xs, e1, e2⟩ with q | q
    · exact z q
    · rw [e] at q
      cases q

/-! ### the rules -/
section
variable {X : Cx} {W : WX} {w0 : Rw} {M0 : Addr → Prop} {pos pos' : Pos} {a b c e : Expr} {fa fb fc : E} {ga gb : T} {es : List Expr} {fs : A} {st : Stmt} {sts : List Stmt} {f g : S}
abbrev PSs' (X : Cx) (W : WX) (w0 : Rw) (M0 : Addr → Prop) (st : Stmt) (f : S) : Prop := PS X st (tS X.K X.mg W w0 M0 f)
abbrev PBs (X : Cx) (W : WX) (w0 : Rw) (M0 : Addr → Prop) (st : List Stmt) (f : S) : Prop := PSs X st (tS X.K X.mg W w0 M0 f)
theorem PS.weak {t t' : TS} (p : PS X st t) (c : ∀ D σ H, t' D σ H → t D σ H) : PS X st t' := ⟨fun pins s σ H D I q => p.run pins s σ H D I (c D σ H q)⟩
theorem PSs.weak {t t' : TS} (p : PSs X sts t) (c : ∀ D σ H, t' D σ H → t D σ H) : PSs X sts t' := ⟨fun pins s σ H D I q => p.run pins s σ H D I (c D σ H q)⟩
theorem b_nil : PBs X W w0 M0 [] sNil := PSs.weak pss_nil fun D σ H ⟨w, r, h, e, R, k⟩ => by
  subst e
  exact k w σ R
theorem b_cons (h1 : PSs' X W w0 M0 st f) (h2 : PBs X W w0 M0 sts g) : PBs X W w0 M0 (st :: sts) (sCons f g) := PSs.weak (pss_cons h1 h2) fun D σ H ⟨w, r, h, e, R, k⟩ => by
  subst e
  refine ⟨w, r, h, rfl, R, ?_⟩
  have k : SK X.K X.mg W w0 M0 D ((f r h).seq g) := k
  cases hf : f r h with
  | nx r1 h1 =>
    rw [hf] at k
    exact fun w1 σ1 R1 => ⟨w1, r1, h1, rfl, R1, k⟩
  | rt x h1 =>
    rw [hf] at k
    exact k
  | bk r1 h1 =>
    rw [hf] at k
    exact k
  | ct r1 h1 =>
    rw [hf] at k
    exact k
  | ex e r1 h1 =>
    rw [hf] at k
    exact k
  | no =>
    rw [hf] at k
    exact k
/-- a slot's list of one's own stands for good from here on, ahead of a statement -/
theorem b_frz (i : Nat) (h1 : PSs' X W w0 M0 st f) : PSs' X W w0 M0 st (sCons (sFrz i) f) := PS.weak h1 fun D σ H ⟨w, r, h, e, R, k⟩ => by
  subst e
  have k : SK X.K X.mg W w0 M0 D ((sFrz i r h).seq f) := k
  unfold sFrz at k
  split at k
  · rename_i xs hx
    obtain ⟨w', eH, R'⟩ := R.freeze hx
    exact ⟨w', _, h, eH, R', k⟩
  · exact k.elim
theorem b_one (h1 : PSs' X W w0 M0 st f) : PBs X W w0 M0 [st] f := pss_one h1
theorem b_pass : PSs' X W w0 M0 (.Pass pos) sPass := PS.weak ps_pass fun D σ H ⟨w, r, h, e, R, k⟩ => by
  subst e
  exact k w σ R
theorem b_break : PSs' X W w0 M0 (.Break pos) sBreak := PS.weak ps_break fun D σ H ⟨w, r, h, e, R, k⟩ => by
  subst e
  exact k w σ R
theorem b_cont : PSs' X W w0 M0 (.Continue pos) sCont := PS.weak ps_continue fun D σ H ⟨w, r, h, e, R, k⟩ => by
  subst e
  exact k w σ R
theorem b_never : PSs' X W w0 M0 st sNever := PS.weak ps_never fun D σ H ⟨w, r, h, e, R, k⟩ => k.elim
theorem b_doc {x j p} : PSs' X W w0 M0 (.Expr (.Constant (.str x) j p) pos) sPass := PS.weak ps_doc fun D σ H ⟨w, r, h, e, R, k⟩ => by
  subst e
  exact k w σ R
theorem b_expr (ha : PEs X W a fa) (hs : PySem.swapsWith a none pos.line X.env = pure false := by rfl) : PSs' X W w0 M0 (.Expr a pos) (sExpr fa) := PS.weak (ps_expr ha hs) fun D σ H ⟨w, r, h, e, R, k⟩ => by
  subst e
  exact ⟨w, r, h, rfl, R.rel, SK.cut (f := fun _ h1 => .nx r h1) R (fun x h1 w1 v1 l1 R1 q1 k1 => k1 w1 σ (R.le' l1 R1)) k⟩
theorem b_ret (ha : PEs X W a fa) : PSs' X W w0 M0 (.Return (some a) pos) (sRet fa) := PS.weak (ps_ret ha) fun D σ H ⟨w, r, h, e, R, k⟩ => by
  subst e
  refine ⟨w, r, h, rfl, R.rel, SK.cut R (fun x h1 w1 v1 l1 R1 q1 k1 => ?_) k⟩
  cases x with
  | v x => exact k1 w1 v1 (R.le.le l1) R1 q1
  | own xs => exact k1 w1 v1 (R.le.le l1) R1 (RRes.backS (x := .own xs) R.le q1)
  | view xs => exact k1.elim
theorem b_retN : PSs' X W w0 M0 (.Return none pos) sRetN := PS.weak ps_retN fun D σ H ⟨w, r, h, e, R, k⟩ => by
  subst e
  exact k w _ R.le R.rel.hp rfl
theorem b_if (hc : PTs' X W c ga) (ha : PBs X W w0 M0 sts f) {sts2 : List Stmt} (hb : PBs X W w0 M0 sts2 g) : PSs' X W w0 M0 (.If c sts sts2 pos) (sIf ga f g) := PS.weak (ps_if hc ha hb) fun D σ H ⟨w, r, h, e, R, k⟩ => by
  subst e
  refine ⟨w, r, h, rfl, R.rel, SK.cutT R (fun c h1 w1 l1 R1 k1 => ?_) k⟩
  cases c with
  | true =>
    rw [if_pos rfl] at k1 ⊢
    exact ⟨w1, r, h1, rfl, R.le' l1 R1, k1⟩
  | false =>
    rw [if_neg Bool.false_ne_true] at k1 ⊢
    exact ⟨w1, r, h1, rfl, R.le' l1 R1, k1⟩
theorem b_set {i : Nat} {x : Str} (hN : X.N.Nodup) (hi : X.N[i]? = some x) (hx : Loc X.env.scope x) (ha : PEs X W a fa) (hs : PySem.swapsWith a (some (.Name x pos')) pos.line X.env = pure false := by rfl) (hf : X.fn x = true ∨ X.env.scope.names.lookup x = some .local := by first | exact .inl rfl | exact .inr rfl | assumption) :
    PSs' X W w0 M0 (.Assign [.Name x pos'] a pos) (sSet i fa) := PS.weak (ps_set hN hi hx ha hs hf) fun D σ H ⟨w, r, h, e, R, k⟩ => by
  subst e
  refine ⟨w, r, h, rfl, R.rel, SK.cut R (fun x h1 w1 v1 l1 R1 q1 k1 => ?_) k⟩
  split at k1
  · rename_i y hy
    obtain ⟨w2, eH, l2, R2, q2⟩ := q1.keep R1 l1 hy
    have := k1 w2 _ ((R.le' l2 R2).set_v (i := i) q2)
    rw [eH] at this
    exact this
  · exact k1.elim
theorem b_own {i : Nat} {x : Str} (hN : X.N.Nodup) (hi : X.N[i]? = some x) (hx : Loc X.env.scope x) (ha : PEs X W a fa) (hs : PySem.swapsWith a (some (.Name x pos')) pos.line X.env = pure false := by rfl) (hf : X.fn x = true ∨ X.env.scope.names.lookup x = some .local := by first | exact .inl rfl | exact .inr rfl | assumption) :
    PSs' X W w0 M0 (.Assign [.Name x pos'] a pos) (sOwn i fa) := PS.weak (ps_set hN hi hx ha hs hf) fun D σ H ⟨w, r, h, e, R, k⟩ => by
  subst e
  refine ⟨w, r, h, rfl, R.rel, SK.cut R (fun x h1 w1 v1 l1 R1 q1 k1 => ?_) k⟩
  split at k1
  · rename_i xs
    exact k1 w1 _ (R.set_own l1 R1 q1)
  · exact k1.elim
end
end SM

/-! SMStm2: further statements. -/
namespace SM
open PySem (Str Expr Stmt Pos Operator CmpOp)
open L2 hiding St tB tAnd tOr tNot
section
variable {K : Frag} {mg : Mg} {w w0 w1 w2 : Rw} {h h' : Heap} {a : Addr} {M M0 M1 : Addr → Prop} {r : Env} {σ : L2.St}
/-- a list of one's own becomes an object of the heap -/
def Rw.grow (w : Rw) (a : Addr) : Rw := ⟨fun k => if k = w.n then a else w.io k, w.P, w.n + 1, w.H⟩
theorem grow_io {k : Nat} (hk : k < w.n) : (w.grow a).io k = w.io k := if_neg (Nat.ne_of_lt hk)
theorem grow_at : (w.grow a).io w.n = a := if_pos rfl
mutual
theorem RVal.grow : ∀ {x : Val} {v : V}, RVal K w x v → RVal K (w.grow a) x v
  | .none, _, q => q
  | .bool _, _, q => q
  | .int _, _, q => q
  | .str _, _, q => q
  | .tup _, _, ⟨b, xs, e, s, q⟩ => ⟨b, xs, e, s, RVals.grow q⟩
  | .ro _, _, ⟨b, xs, e, s, q⟩ => ⟨b, xs, e, s, RVals.grow q⟩
  | .scr _, _, ⟨b, xs, e, s, q⟩ => ⟨b, xs, e, s, RVals.grow q⟩
  | .obj k, _, ⟨hk, e⟩ => ⟨Nat.lt_succ_of_lt hk, by rw [grow_io hk]; exact e⟩
  | .err _ _ _, _, ⟨e, ys, s, q⟩ => ⟨e, ys, s, RVals.grow q⟩
theorem RVals.grow : ∀ {xs : List Val} {vs : List V}, RVals K w xs vs → RVals K (w.grow a) xs vs
  | [], _, q => q
  | _ :: _, _, ⟨y, ys, e, q1, q2⟩ => ⟨y, ys, e, RVal.grow q1, RVals.grow q2⟩
end
theorem RFs.grow : ∀ {fs : List (Str × Val)} {gs : List (Str × V)}, RFs K w fs gs → RFs K (w.grow a) fs gs
  | [], _, q => q
  | (_, _) :: _, _, ⟨y, g, e, q1, q2⟩ => ⟨y, g, e, q1.grow, RFs.grow q2⟩
theorem RKs.grow : ∀ {fs : List (L2.Key × Val)} {gs : List (L2.Key × V)}, RKs K w fs gs → RKs K (w.grow a) fs gs
  | [], _, q => q
  | (_, _) :: _, _, ⟨y, g, e, q1, q2⟩ => ⟨y, g, e, q1.grow, RKs.grow q2⟩
theorem RObj.grow {b : Addr} {o : HObj} (q : RObj K mg w b o) : RObj K mg (w.grow a) b o := by
  cases o with
  | lst vs =>
    obtain ⟨xs, e, q⟩ := q
    exact ⟨xs, e, q.grow⟩
  | ins c fs =>
    obtain ⟨C, dx, gs, e, c, q⟩ := q
    exact ⟨C, dx, gs, e, c, q.grow⟩
  | dct kvs =>
    obtain ⟨gs, e, q⟩ := q
    exact ⟨gs, e, q.grow⟩
theorem RHp.grow (R : RHp K mg w h) (hp : w.P a) (u : w.out a) {o : HObj} (q : RObj K mg w a o) : RHp K mg (w.grow a) (h ++ [o]) where
  len := by
    rw [List.length_append, List.length_singleton, R.len]
    rfl
  obj := fun k o' e => by
    by_cases hk : k < h.length
    · rw [List.getElem?_append_left hk] at e
      rw [grow_io (by rw [← R.len]; exact hk)]
      exact (R.obj k o' e).grow
    · have hk2 : k = h.length := by
        have := (List.getElem?_eq_some_iff.mp e).1
        rw [List.length_append, List.length_singleton] at this
        omega
      subst hk2
      rw [List.getElem?_append_right (Nat.le_refl _), Nat.sub_self] at e
      have e : some o = some o' := e
      cases e
      rw [R.len, grow_at]
      exact q.grow
  inj := fun j k hj hk e => by
    have hj : j < w.n + 1 := hj
    have hk : k < w.n + 1 := hk
    by_cases h1 : j < w.n
    · rw [grow_io h1] at e
      by_cases h2 : k < w.n
      · rw [grow_io h2] at e
        exact R.inj j k h1 h2 e
      · have : k = w.n := by omega
        subst this
        rw [grow_at] at e
        exact absurd e (u j h1)
    · have : j = w.n := by omega
      subst this
      rw [grow_at] at e
      by_cases h2 : k < w.n
      · rw [grow_io h2] at e
        exact absurd e.symm (u k h2)
      · omega
  inP := fun k hk => by
    have hk : k < w.n + 1 := hk
    by_cases h1 : k < w.n
    · rw [grow_io h1]
      exact R.inP k h1
    · have : k = w.n := by omega
      subst this
      rw [grow_at]
      exact hp
  ph := R.ph
theorem Le.grow {s : Rw} (l : Le s w) (ha : s.H a = none) : Le s (w.grow a) where
  n := Nat.le_succ_of_le l.n
  io := fun k hk => (grow_io (Nat.lt_of_lt_of_le hk l.n)).trans (l.io k hk)
  keep := l.keep
  there := l.there
  P := l.P
  new := fun k h1 h2 => by
    have h2 : k < w.n + 1 := h2
    by_cases h3 : k < w.n
    · rw [grow_io h3]
      exact l.new k h1 h3
    · have : k = w.n := by omega
      subst this
      rw [grow_at]
      exact ha
theorem out_grow {b : Addr} (u : w.out b) (ne : b ≠ a) : (w.grow a).out b := fun k hk z => by
  have hk : k < w.n + 1 := hk
  by_cases h1 : k < w.n
  · rw [grow_io h1] at z
    exact u k h1 z
  · have : k = w.n := by omega
    subst this
    rw [grow_at] at z
    exact ne z.symm
theorem RelS.grow (R : RelS K mg w0 M0 w r h σ) (l : Le w w1) (R1 : RHp K mg w1 h') {o : HObj} (e0 : w.H a = none) (p : w1.P a) (u : w1.out a) (q : RObj K mg w1 a o) : RelS K mg w0 M0 (w1.grow a) r (h' ++ [o]) σ := by
  have R2 := R.le' l R1
  refine ⟨⟨R1.grow p u q, R.rel.len, fun j y f => ?_, R.rel.own1⟩, R.le.le (l.grow e0), R.fr⟩
  obtain ⟨v, f1, s⟩ := R2.rel.sl j y f
  refine ⟨v, f1, ?_⟩
  cases y with
  | v y => exact RVal.grow s
  | own ys =>
    obtain ⟨b, zs, e, s1, s2, s3, s4⟩ := s
    subst e
    obtain ⟨o, eo⟩ := R.tracked f f1 fun y z => by cases z
    exact ⟨b, zs, rfl, s1, s2.grow, s3, out_grow s4 fun z => by rw [z, e0] at eo; cases eo⟩
  | view ys =>
    obtain ⟨b, zs, e, ⟨s1, s2⟩, s3⟩ := s
    subst e
    obtain ⟨o, eo⟩ := R.tracked f f1 fun y z => by cases z
    exact ⟨b, zs, rfl, ⟨⟨s1.1, out_grow s1.2 fun z => by rw [z, e0] at eo; cases eo⟩, s2⟩, s3.grow⟩
/-- an object of the heap is stored to -/
theorem RHp.upd_obj {m : Nat} {xs xs' : List Val} {ys' : List V} (R : RHp K mg w h) (e : h[m]? = some (.lst xs)) (q : RVals K w xs' ys') : RHp K mg (w.updO (w.io m) ys') (h.set m (.lst xs')) := by
  have hm : m < h.length := (List.getElem?_eq_some_iff.mp e).1
  have hm2 : m < w.n := by rw [← R.len]; exact hm
  have hl : w.P (w.io m) := R.inP m hm2
  refine ⟨by rw [List.length_set]; exact R.len, fun k o f => ?_, R.inj, R.inP, fun b hb => ?_⟩
  · by_cases hk : m = k
    · subst hk
      rw [List.getElem?_set_self hm] at f
      cases f
      exact ⟨ys', upd_same, q.updO hl⟩
    · rw [List.getElem?_set_ne hk] at f
      have hk2 : k < w.n := by rw [← R.len]; exact (List.getElem?_eq_some_iff.mp f).1
      exact (R.obj k o f).updO hl fun z => hk (R.inj m k hm2 hk2 z.symm)
  · by_cases z : b = w.io m
    · exact ⟨.lst ys', by rw [z]; exact upd_same⟩
    · obtain ⟨o, e⟩ := R.ph b hb
      exact ⟨o, (upd_ne z).trans e⟩
theorem Le.upd_obj {m : Nat} {ys' : List V} (hm : m < w.n) : Le w (w.updO (w.io m) ys') :=
  ⟨Nat.le_refl _, fun _ _ => rfl, fun b o e u => (upd_ne fun z => u m hm z.symm).trans e, fun b o e => by
    by_cases z : b = w.io m
    · exact ⟨.lst ys', by rw [z]; exact upd_same⟩
    · exact ⟨o, (upd_ne z).trans e⟩, fun _ _ _ => Iff.rfl, fun k h1 h2 => absurd h2 (Nat.not_lt.mpr h1)⟩
end
section
variable {X : Cx} {W : WX} {w0 : Rw} {M0 : Addr → Prop} {pos pos' : Pos} {a b c e : Expr} {fa fb fc : E} {ga gb : T} {es : List Expr} {fs : A} {st : Stmt} {sts : List Stmt} {f g : S}
/-- slot i = value -/
abbrev PAsg (X : Cx) (W : WX) (st : Stmt) (i : Nat) (fa : E) : Prop := PS X st (tAsg (tE X.K X.mg W fa) (gName i))
theorem g_set {i : Nat} {x : Str} (hN : X.N.Nodup) (ha : PEs X W a fa) (hi : X.N[i]? = some x := by rfl) (hx : Loc X.env.scope x := by first | exact Or.inl rfl | exact Or.inr rfl) (hs : PySem.swapsWith a (some (.Name x pos')) pos.line X.env = pure false := by rfl) (hf : X.fn x = true ∨ X.env.scope.names.lookup x = some .local := by first | exact .inl rfl | exact .inr rfl | assumption) :
    PAsg X W (.Assign [.Name x pos'] a pos) i fa := ps_set hN hi hx ha hs hf
theorem b_set' {i : Nat} (hp : PAsg X W st i fa) : PSs' X W w0 M0 st (sSet i fa) := PS.weak hp fun D σ H ⟨w, r, h, e, R, k⟩ => by
  subst e
  refine ⟨w, r, h, rfl, R.rel, SK.cut R (fun x h1 w1 v1 l1 R1 q1 k1 => ?_) k⟩
  split at k1
  · rename_i y hy
    obtain ⟨w2, eH, l2, R2, q2⟩ := q1.keep R1 l1 hy
    have := k1 w2 _ ((R.le' l2 R2).set_v (i := i) q2)
    rw [eH] at this
    exact this
  · exact k1.elim
theorem b_own' {i : Nat} (hp : PAsg X W st i fa) : PSs' X W w0 M0 st (sOwn i fa) := PS.weak hp fun D σ H ⟨w, r, h, e, R, k⟩ => by
  subst e
  refine ⟨w, r, h, rfl, R.rel, SK.cut R (fun x h1 w1 v1 l1 R1 q1 k1 => ?_) k⟩
  split at k1
  · rename_i xs
    exact k1 w1 _ (R.set_own l1 R1 q1)
  · exact k1.elim
theorem b_heap {i : Nat} (hp : PAsg X W st i fa) : PSs' X W w0 M0 st (sHeap i fa) := PS.weak hp fun D σ H ⟨w, r, h, e, R, k⟩ => by
  subst e
  refine ⟨w, r, h, rfl, R.rel, SK.cut R (fun x h1 w1 v1 l1 R1 q1 k1 => ?_) k⟩
  split at k1
  · rename_i xs
    obtain ⟨p, ys, e, e0, e1, q, hp, u⟩ := q1
    subst e
    refine k1 (w1.grow p) _ ((R.grow l1 R1 e0 hp u (show RObj X.K X.mg w1 p (.lst xs) from ⟨ys, e1, q⟩)).set_v (i := i) ⟨?_, ?_⟩)
    · rw [R1.len]
      exact Nat.lt_succ_self _
    · rw [R1.len, grow_at]
  · exact k1.elim
theorem b_retOwn {i : Nat} {x : Str} (hN : X.N[i]? = some x := by rfl) (hv : Vis X.env.scope x := by first | exact Or.inl rfl | exact Or.inr (Or.inl rfl) | exact Or.inr (Or.inr rfl)) (hd : (x == ("__debug__" : Str)) = false := by decide)
    (hcd : (x == ("__classdict__" : Str)) = false := by decide) : PSs' X W w0 (fun _ => False) (.Return (some (.Name x pos')) pos) (sRetOwn i) := PS.weak (ps_ret (pe_var hN hv hd hcd)) fun D σ H ⟨w, r, h, e, R, k⟩ => by
  subst e
  unfold sRetOwn at k
  split at k
  · rename_i xs hx
    obtain ⟨v, e1, p, ys, e2, s1, s2, s3, s4⟩ := R.rel.sl i _ hx
    subst e2
    refine ⟨.ref p, e1, k w _ R.le R.rel.hp ⟨p, ys, rfl, ?_, s1, s2, s3, s4⟩⟩
    exact (R.fr p ⟨i, xs, hx, e1⟩).elim (fun z => z.elim) id
  · exact k.elim
/-- slot.append(e) -/
theorem b_app (i : Nat) {x : Str} {p1 p2 p3 p4 : Pos} (ha : PEs X W a fa) (hN : X.N[i]? = some x := by rfl) (hv : Vis X.env.scope x := by first | exact Or.inl rfl | exact Or.inr (Or.inl rfl) | exact Or.inr (Or.inr rfl)) (hd : (x == ("__debug__" : Str)) = false := by decide)
    (hcd : (x == ("__classdict__" : Str)) = false := by decide) (hbase : PySem.attributeBase (.Name x p1) "append" X.env (PySem.eval (.Name x p1) X.env) = PySem.eval (.Name x p1) X.env := by rfl)
    (hfew : ((PySem.backTo p3 (PySem.starEach [a] X.env)).all (fun x => !x.1) && (PySem.backToKw p3 (PySem.keywordEach [] X.env)).all (fun x => x.1.isSome)
      && decide ([a].length + ([] : List PySem.Keyword).length + (if ([] : List PySem.Keyword).isEmpty then 0 else 1) < 30)) = true := by rfl)
    (hline : (p2.endLine == p3.line) = true := by rfl) (hs : PySem.starEach [a] X.env = (false, PySem.eval a X.env) :: PySem.starEach [] X.env := by rfl) (hplain : (PySem.backTo p3 (PySem.starEach [] X.env)).any (·.1) = false := by rfl)
    (hsw : PySem.swapsWith (.Call (.Attribute (.Name x p1) "append" p2) [a] [] p3) none p4.line X.env = pure false := by rfl) :
    PSs' X W w0 M0 (.Expr (.Call (.Attribute (.Name x p1) "append" p2) [a] [] p3) p4) (sApp i fa) :=
  PS.weak (ps_expr (pe_bm PySem.F.plainAttrs_list PySem.F.slot_list_append PySem.F.type_list_append mt_append (pe_var hN hv hd hcd) (pa_cons ha pa_nil hs) hbase hfew hline hs hplain) hsw) fun D σ H ⟨w, r, h, e, R, k⟩ => by
    subst e
    unfold sApp at k
    split at k
    · rename_i xs hx
      obtain ⟨v, e1, l, ys, e2, s1, s2, s3, s4⟩ := R.rel.sl i _ hx
      subst e2
      refine ⟨.ref l, e1, .inl ⟨rfl, ys, .of s1⟩, w, r, h, rfl, R.rel, SK.cut R (fun x h1 w1 v1 l1 R1 q1 k1 => ?_) k⟩
      split at k1
      · rename_i y hy
        split at k1
        · rename_i hz
          obtain ⟨w2, eH, l2, R2, q2⟩ := q1.keep R1 l1 hy
          have e3 : w2.H l = some (.lst ys) := l2.keep l _ s1 s4
          have s5 := s2.le R.rel.hp l2
          refine ⟨l, ys, v1, rfl, rfl, eH ▸ e3, by rw [← s2.length]; exact hz, ?_⟩
          have := k1 _ _ ((R.le' l2 R2).upd_own hx e1 (s5.append (RVals.one q2)))
          unfold Rw.updO at this
          rw [eH] at this
          exact this
        · exact k1.elim
      · exact k1.elim
    · exact k.elim
/-- slot.extend(e) -/
theorem b_ext (i : Nat) {x : Str} {p1 p2 p3 p4 : Pos} (ha : PEs X W a fa) (hN : X.N[i]? = some x := by rfl) (hv : Vis X.env.scope x := by first | exact Or.inl rfl | exact Or.inr (Or.inl rfl) | exact Or.inr (Or.inr rfl)) (hd : (x == ("__debug__" : Str)) = false := by decide)
    (hcd : (x == ("__classdict__" : Str)) = false := by decide) (hbase : PySem.attributeBase (.Name x p1) "extend" X.env (PySem.eval (.Name x p1) X.env) = PySem.eval (.Name x p1) X.env := by rfl)
    (hfew : ((PySem.backTo p3 (PySem.starEach [a] X.env)).all (fun x => !x.1) && (PySem.backToKw p3 (PySem.keywordEach [] X.env)).all (fun x => x.1.isSome)
      && decide ([a].length + ([] : List PySem.Keyword).length + (if ([] : List PySem.Keyword).isEmpty then 0 else 1) < 30)) = true := by rfl)
    (hline : (p2.endLine == p3.line) = true := by rfl) (hs : PySem.starEach [a] X.env = (false, PySem.eval a X.env) :: PySem.starEach [] X.env := by rfl) (hplain : (PySem.backTo p3 (PySem.starEach [] X.env)).any (·.1) = false := by rfl)
    (hsw : PySem.swapsWith (.Call (.Attribute (.Name x p1) "extend" p2) [a] [] p3) none p4.line X.env = pure false := by rfl) :
    PSs' X W w0 M0 (.Expr (.Call (.Attribute (.Name x p1) "extend" p2) [a] [] p3) p4) (sExt i fa) :=
  PS.weak (ps_expr (pe_bm PySem.F.plainAttrs_list PySem.F.slot_list_extend PySem.F.type_list_extend mt_extend (pe_var hN hv hd hcd) (pa_cons ha pa_nil hs) hbase hfew hline hs hplain) hsw) fun D σ H ⟨w, r, h, e, R, k⟩ => by
    subst e
    unfold sExt at k
    split at k
    · rename_i xs hx
      obtain ⟨v, e1, l, ys, e2, s1, s2, s3, s4⟩ := R.rel.sl i _ hx
      subst e2
      refine ⟨.ref l, e1, .inl ⟨rfl, ys, .of s1⟩, w, r, h, rfl, R.rel, SK.cut R (fun x h1 w1 v1 l1 R1 q1 k1 => ?_) k⟩
      split at k1
      · rename_i zs hy
        split at k1
        · rename_i hz
          obtain ⟨b, us, eb, eb2, qb⟩ := lookL_ok R1 q1 hy
          subst eb
          have e3 : w1.H l = some (.lst ys) := l1.keep l _ s1 s4
          have s5 := s2.le R.rel.hp l1
          refine ⟨l, b, ys, us, rfl, rfl, e3, eb2, by rw [← s2.length, ← qb.length]; exact hz, ?_⟩
          exact k1 _ _ ((R.le' l1 R1).upd_own hx e1 (s5.append qb))
        · exact k1.elim
      · exact k1.elim
    · exact k.elim
/-- slot[k] = e -/
theorem b_setIx (i : Nat) {x : Str} {p1 p2 : Pos} (ha : PEs X W a fa) (hb : PEs X W b fb) (hN : X.N[i]? = some x := by rfl) (hv : Vis X.env.scope x := by first | exact Or.inl rfl | exact Or.inr (Or.inl rfl) | exact Or.inr (Or.inr rfl)) (hd : (x == ("__debug__" : Str)) = false := by decide)
    (hcd : (x == ("__classdict__" : Str)) = false := by decide)
    (hs : PySem.swapsWithSole [.Subscript (.Name x p1) b p2] a pos.line X.env = pure false := by rfl) (hw : PySem.swappedStores [.Subscript (.Name x p1) b p2] a X.env = pure none := by rfl)
    (h1 : (PySem.assignEach [.Subscript (.Name x p1) b p2] X.env).map (·.2) = [PySem.assign (.Subscript (.Name x p1) b p2) X.env] := by rfl)
    (hg : ∀ v, PySem.assign (.Subscript (.Name x p1) b p2) X.env v = (do
      let ov ← PySem.holding [v] (PySem.eval (.Name x p1) X.env)
      let iv ← PySem.holding [v, ov] (PySem.eval b X.env)
      PySem.standAt p2
      PySem.holding [v, ov, iv] (PySem.setItem ov iv v)
      PySem.release [v, ov, iv] []) := by intro _; rfl) :
    PSs' X W w0 M0 (.Assign [.Subscript (.Name x p1) b p2] a pos) (sSetIx i fb fa) :=
  PS.weak (ps_asg ha (pg_sub (pe_var hN hv hd hcd) hb set_list hg) hs hw h1) fun D σ H ⟨w, r, h, e, R, k⟩ => by
    subst e
    refine ⟨w, r, h, rfl, R.rel, SK.cut R (fun x h1 w1 v1 l1 R1 q1 k1 => ?_) k⟩
    split at k1
    · rename_i y hy
      split at k1
      · rename_i xs hx
        obtain ⟨v, e1, l, ys, e2, s1, s2, s3, s4⟩ := R.rel.sl i _ hx
        subst e2
        obtain ⟨w2, eH, l2, R2, q2⟩ := q1.keep R1 l1 hy
        refine ⟨.ref l, e1, w2, r, h1, eH, R.rel.le l2 R2, SK.cut (R.le' l2 R2) (fun j h3 w3 v3 l3 R3 q3 k3 => ?_) k1⟩
        split at k3
        · rename_i j
          split at k3
          · rename_i n hn
            have e4 : v3 = .int j := q3
            subst e4
            have l4 := l2.trans l3
            have s5 := s2.le R.rel.hp l4
            refine ⟨l, ys, j, n, rfl, rfl, l4.keep l _ s1 s4, by rw [← s2.length]; exact hn, ?_⟩
            exact k3 _ _ ((R.le' l4 R3).upd_own hx e1 (s5.set (q2.le R2 l3) n))
          · exact k3.elim
        · exact k3.elim
      · exact k1.elim
    · exact k1.elim
/-- o[k] = e, o a list of the heap -/
theorem b_setHp {p2 : Pos} (ha : PEs X W a fa) (hc : PEs X W c fc) (hb : PEs X W b fb)
    (hs : PySem.swapsWithSole [.Subscript c b p2] a pos.line X.env = pure false := by rfl) (hw : PySem.swappedStores [.Subscript c b p2] a X.env = pure none := by rfl)
    (h1 : (PySem.assignEach [.Subscript c b p2] X.env).map (·.2) = [PySem.assign (.Subscript c b p2) X.env] := by rfl)
    (hg : ∀ v, PySem.assign (.Subscript c b p2) X.env v = (do
      let ov ← PySem.holding [v] (PySem.eval c X.env)
      let iv ← PySem.holding [v, ov] (PySem.eval b X.env)
      PySem.standAt p2
      PySem.holding [v, ov, iv] (PySem.setItem ov iv v)
      PySem.release [v, ov, iv] []) := by intro _; rfl) :
    PSs' X W w0 M0 (.Assign [.Subscript c b p2] a pos) (sSetHp fc fb fa) :=
  PS.weak (ps_asg ha (pg_sub hc hb set_list hg) hs hw h1) fun D σ H ⟨w, r, h, e, R, k⟩ => by
    subst e
    refine ⟨w, r, h, rfl, R.rel, SK.cut R (fun x h1 w1 v1 l1 R1 q1 k1 => ?_) k⟩
    split at k1
    · rename_i y hy
      obtain ⟨w2, eH, l2, R2, q2⟩ := q1.keep R1 l1 hy
      refine ⟨w2, r, h1, eH, R.rel.le l2 R2, SK.cut (R.le' l2 R2) (fun o h3 w3 v3 l3 R3 q3 k3 => ?_) k1⟩
      split at k3
      · rename_i m
        have l23 := l2.trans l3
        refine ⟨w3, r, h3, rfl, R.rel.le l23 R3, SK.cut (R.le' l23 R3) (fun j h4 w4 v4 l4 R4 q4 k4 => ?_) k3⟩
        split at k4
        · rename_i j
          split at k4
          · rename_i xs hm
            split at k4
            · rename_i n hn
              have e4 : v4 = .int j := q4
              subst e4
              obtain ⟨hk, ev⟩ := (q3.le R3 l4 : RVal X.K w4 (.obj m) v3)
              subst ev
              obtain ⟨ys, ey, qy⟩ := R4.obj m _ hm
              refine ⟨_, ys, j, n, rfl, rfl, ey, by rw [← qy.length]; exact hn, ?_⟩
              have q5 := (q2.le R2 l3).le R3 l4
              exact k4 (w4.updO (w4.io m) _) σ ((R.le' (l23.trans l4) R4).le' (Le.upd_obj hk) (R4.upd_obj hm (qy.set q5 n)))
            · exact k4.elim
          · exact k4.elim
        · exact k4.elim
      · exact k3.elim
    · exact k1.elim
/-- slot op= e -/
theorem b_aug (i : Nat) {x : Str} {op : Operator} {f : F2} {r2 : R2} (hN : X.N.Nodup) (ho : OpR X (PySem.inplaceOp op) r2) (hf : F2Ok X.K X.mg f r2) (ha : PEs X W a fa) (hi : X.N[i]? = some x := by rfl) (hx : Loc X.env.scope x := by first | exact Or.inl rfl | exact Or.inr rfl) (hfn : X.fn x = true ∨ X.env.scope.names.lookup x = some .local := by first | exact .inl rfl | exact .inr rfl | assumption) :
    PSs' X W w0 M0 (.AugAssign (.Name x pos') op a pos) (sAug i f fa) := PS.weak (ps_aug hN hi hx ha (show PIp X op r2 from ho) hfn) fun D σ H ⟨w, r, h, e, R, k⟩ => by
  subst e
  unfold sAug at k
  split at k
  · rename_i y hy
    obtain ⟨v, e1, s⟩ := R.rel.sl i _ hy
    refine ⟨v, e1, w, r, h, rfl, R.rel, SK.cut R (fun x h1 w1 v1 l1 R1 q1 k1 => ?_) k⟩
    have s' : RRes X.K w1 w1 (.v y) v := RVal.le R.rel.hp l1 s
    split at k1
    · rename_i z hz
      split at k1
      · rename_i u hu
        refine hf w1 w1 w h1 (.v y) x z v v1 _ R1 s' q1 hz fun w2 v2 l2 R2 q2 => ?_
        obtain ⟨w3, eH, l3, R3, q3⟩ := q2.keep R2 l2 hu
        have := k1 w3 _ ((R.le' (l1.trans l3) R3).set_v (i := i) q3)
        rw [eH] at this
        exact this
      · exact k1.elim
    · exact k1.elim
  · exact k.elim
theorem b_augAdd (i : Nat) {x : Str} (hN : X.N.Nodup) (ha : PEs X W a fa) (hi : X.N[i]? = some x := by rfl) (hx : Loc X.env.scope x := by first | exact Or.inl rfl | exact Or.inr rfl) (hfn : X.fn x = true ∨ X.env.scope.names.lookup x = some .local := by first | exact .inl rfl | exact .inr rfl | assumption) :
    PSs' X W w0 M0 (.AugAssign (.Name x pos') .Add a pos) (sAug i (fI0 fun i j => .int (i + j)) fa) := b_aug i hN iop_add (fI0_ok fun _ _ _ => rfl) ha hi hx hfn
theorem b_augSub (i : Nat) {x : Str} (hN : X.N.Nodup) (ha : PEs X W a fa) (hi : X.N[i]? = some x := by rfl) (hx : Loc X.env.scope x := by first | exact Or.inl rfl | exact Or.inr rfl) (hfn : X.fn x = true ∨ X.env.scope.names.lookup x = some .local := by first | exact .inl rfl | exact .inr rfl | assumption) :
    PSs' X W w0 M0 (.AugAssign (.Name x pos') .Sub a pos) (sAug i fSub fa) := b_aug i hN iop_sub (fI0_ok fun _ _ _ => rfl) ha hi hx hfn
end
end SM

/-! SMZip: zip of two sequences, each a list or a tuple. -/
namespace SMZ
open PySem RZ
/-- an iterator over a tuple (t) or a list, at place i -/
def ItOf (t : Bool) (h : Heap) (it l : Addr) (i : Nat) : Prop := match t with
  | true => h.IsTupleIter it l i
  | false => h.IsListIter it l i
def SqOf (t : Bool) (h : Heap) (l : Addr) (xs : Array Value) : Prop := match t with
  | true => h.IsTuple l xs
  | false => h.IsList l xs
def itName (t : Bool) : String := if t then "tuple_iterator" else "list_iterator"
def itObj (t : Bool) (l : Addr) : Obj := { cls := .type (itName t), data := .fields #[.ref l, .int 0 0] }
theorem ItOf.extBut {t : Bool} {h h' : Heap} {a b l : Addr} {i : Nat} (x : ItOf t h a l i) (hs : Heap.ExtBut b h h') (hab : a ≠ b) : ItOf t h' a l i := by
  cases t
  · exact Heap.IsListIter.extBut x hs hab
  · exact Heap.IsTupleIter.extBut x hs hab
theorem SqOf.extBut {t : Bool} {h h' : Heap} {a b : Addr} {xs : Array Value} (x : SqOf t h a xs) (hs : Heap.ExtBut b h h') (hab : a ≠ b) : SqOf t h' a xs := by
  cases t
  · exact Heap.IsList.extBut x hs hab
  · exact Heap.IsTuple.extBut x hs hab
theorem ItOf.to {t : Bool} {h h' : Heap} {a l : Addr} {i : Nat} (x : ItOf t h a l i) (k : ∀ o, h.get? a = some o → h'.get? a = some o) : ItOf t h' a l i := by
  cases t
  · obtain ⟨o, e, c⟩ := x
    exact ⟨o, k o e, c⟩
  · obtain ⟨o, e, c⟩ := x
    exact ⟨o, k o e, c⟩
theorem ItOf.there {t : Bool} {h : Heap} {a l : Addr} {i : Nat} (x : ItOf t h a l i) : ∃ o, h.get? a = some o ∧ ∀ v, o.data ≠ .cell v := by
  cases t
  · obtain ⟨o, e, _, d⟩ := x
    exact ⟨o, e, fun v z => by rw [d] at z; cases z⟩
  · obtain ⟨o, e, _, d⟩ := x
    exact ⟨o, e, fun v z => by rw [d] at z; cases z⟩
theorem SqOf.lt {t : Bool} {h : Heap} {a : Addr} {xs : Array Value} (x : SqOf t h a xs) : a < h.objs.size := by
  cases t
  · obtain ⟨o, e, _⟩ := x
    exact Heap.lt_size e
  · obtain ⟨o, e, _⟩ := x
    exact Heap.lt_size e
section
variable {prog : Program} {w : World} {A : Around} {E : Value → Shared → Prop} {s : Shared}
theorem next_item {t : Bool} {it l : Addr} {i : Nat} {items : Array Value} {x : Value} {Q : Value → Shared → Prop} (hit : ItOf t s.heap it l i) (hl : SqOf t s.heap l items) (hx : items[i]? = some x)
    (hQ : ∀ h', ItOf t h' it l (i + 1) → Heap.SameBut it s.heap h' → Q x { s with heap := h' }) : wpAny (model prog w) A (Builtin.SmallTypes.nextOf (.ref it)) Q E s := by
  cases t
  · exact wpAny_nextOf_list_item hit hl hx hQ
  · exact nextOf_tuple_item hit hl hx hQ
theorem next_end {t : Bool} {it l : Addr} {i : Nat} {items : Array Value} {Q : Value → Shared → Prop} (hh : A.handled = none) (hit : ItOf t s.heap it l i) (hl : SqOf t s.heap l items) (hx : items[i]? = none)
    (hE : ∀ h' e, Heap.ExtBut it s.heap h' → (∃ o, h'.get? e = some o ∧ o.cls = .type "StopIteration") → E (.ref e) { s with heap := h' }) : wpAny (model prog w) A (Builtin.SmallTypes.nextOf (.ref it)) Q E s := by
  cases t
  · exact wpAny_nextOf_list_end hh hit hl hx hE
  · exact nextOf_tuple_end hh hit hl hx hE
variable {t u : Bool} {z TI TO i1 i2 l1 l2 : Addr} {k1 k2 : Nat} {xs ys : Array Value} {x y a b : Value}
theorem step_item {Q : Value → Shared → Prop} (D : ZipApart z TI TO i1 i2 l1 l2) (hz : IsZip s.heap z TI TO .none) (hTI : IsPair s.heap TI (.ref i1) (.ref i2)) (hTO : IsPair s.heap TO a b)
    (h1 : ItOf t s.heap i1 l1 k1) (h2 : ItOf u s.heap i2 l2 k2) (hl1 : SqOf t s.heap l1 xs) (hl2 : SqOf u s.heap l2 ys) (hx : xs[k1]? = some x) (hy : ys[k2]? = some y)
    (hQ : ∀ h', IsZip h' z TI TO (rawInt s.heap.objs.size) → IsPair h' TO x y → ItOf t h' i1 l1 (k1 + 1) → ItOf u h' i2 l2 (k2 + 1) → IsPair h' s.heap.objs.size x y → h'.objs.size = s.heap.objs.size + 1 →
      (∀ c o, c ≠ z → c ≠ TO → c ≠ i1 → c ≠ i2 → s.heap.get? c = some o → h'.get? c = some o) → Q (.ref s.heap.objs.size) { s with heap := h' }) :
    wpAny (model prog w) A (Builtin.«zip.__next__» ⟨[.ref z], []⟩) (fun fin s' => ∃ v, fin = .done (.ret v) ∧ Q v s') E s := by
  show wpAny _ _ (field (.ref z) 2 >>= _) _ _ _
  refine wpAny_bind (wpAny_field hz rfl (x := .bool false) rfl ?_)
  show wpAny _ _ (field (.ref z) 3 >>= _) _ _ _
  refine wpAny_bind (wpAny_field hz rfl (x := .ref TI) rfl (wpAny_bind (wpAny_seqItems hTI rfl ?_)))
  show wpAny _ _ (Builtin.SmallTypes.ownedTupleIsFree (.ref z) >>= _) _ _ _
  refine wpAny_bind ?_
  unfold Builtin.SmallTypes.ownedTupleIsFree
  refine wpAny_bind (wpAny_field hz rfl (x := .none) rfl (wpAny_pure ?_))
  simp only [if_true]
  refine wpAny_bind (wpAny_rule (wpAny_bind (wpAny_field hz rfl (x := .ref TO) rfl (wpAny_bind (wpAny_setField_rec hz (by simp) fun g1 hz1 s1 => ?_)))))
  replace hz1 : IsZip g1 z TI TO .ellipsis := hz1
  refine wpAny_bind ?_
  simp only [List.zipIdx_cons, List.zipIdx_nil, List.forIn_cons, List.forIn_nil]
  refine wpAny_bind (wpAny_bind (wpAny_onRaise ?_))
  show wpAny _ _ (Builtin.SmallTypes.nextOf (.ref i1) >>= _) _ _ _
  refine wpAny_bind (next_item (h1.extBut s1.extBut D.i1z) (hl1.extBut s1.extBut D.l1z) hx fun g2 a1 s2 => wpAny_pure ?_)
  have p2 : IsPair g2 TO a b := s2.extBut _ _ D.TOi1 (s1.extBut _ _ D.TOz hTO)
  refine wpAny_bind (wpAny_seqItems p2 rfl (wpAny_bind (wpAny_updateSeq_pair p2 fun g3 p3 s3 => ?_)))
  replace p3 : IsPair g3 TO x b := p3
  refine wpAny_bind (wpAny_letGo (wpAny_pure (wpAny_bind (wpAny_bind (wpAny_onRaise ?_)))))
  show wpAny _ _ (Builtin.SmallTypes.nextOf (.ref i2) >>= _) _ _ _
  have j2 : ItOf u g3 i2 l2 k2 := ((h2.extBut s1.extBut D.i2z).extBut s2.extBut D.i12.symm).extBut s3.extBut D.TOi2.symm
  have m2 : SqOf u g3 l2 ys := ((hl2.extBut s1.extBut D.l2z).extBut s2.extBut D.l2i1).extBut s3.extBut D.l2TO
  refine wpAny_bind (next_item j2 m2 hy fun g4 a2 s4 => wpAny_pure ?_)
  have p4 : IsPair g4 TO x b := s4.extBut _ _ D.TOi2 p3
  refine wpAny_bind (wpAny_seqItems p4 rfl (wpAny_bind (wpAny_updateSeq_pair p4 fun g5 p5 s5 => ?_)))
  replace p5 : IsPair g5 TO x y := p5
  refine wpAny_bind (wpAny_letGo (wpAny_pure (wpAny_pure (wpAny_bind (wpAny_seqItems p5 rfl (wpAny_bind (wpAny_newTuple ?_)))))))
  have size5 : g5.objs.size = s.heap.objs.size := by rw [s5.1, s4.1, s3.1, s2.1, s1.1]
  have z5 : IsZip g5 z TI TO .ellipsis := s5.extBut _ _ D.TOz.symm (s4.extBut _ _ D.i2z.symm (s3.extBut _ _ D.TOz.symm (s2.extBut _ _ D.i1z.symm hz1)))
  have keep5 : ∀ c o, c ≠ z → c ≠ TO → c ≠ i1 → c ≠ i2 → s.heap.get? c = some o → g5.get? c = some o := fun c o c1 c2 c3 c4 e =>
    s5.extBut _ _ c2 (s4.extBut _ _ c4 (s3.extBut _ _ c2 (s2.extBut _ _ c3 (s1.extBut _ _ c1 e))))
  have b1 : ItOf t g5 i1 l1 (k1 + 1) := ((a1.extBut s3.extBut D.TOi1.symm).extBut s4.extBut D.i12).extBut s5.extBut D.TOi1.symm
  have b2 : ItOf u g5 i2 l2 (k2 + 1) := a2.extBut s5.extBut D.TOi2.symm
  have zlt : z < g5.objs.size := Heap.lt_size z5
  show wpAny _ _ (Builtin.SmallTypes.ownedTupleHandOut (.ref z) (.ref g5.objs.size) >>= _) _ _ _
  refine wpAny_bind ?_
  unfold Builtin.SmallTypes.ownedTupleHandOut
  have z6 : IsZip (g5.push { cls := .type "tuple", data := .seq #[x, y] }) z TI TO .ellipsis := Heap.get?_push_of_some _ z5
  refine wpAny_bind (wpAny_setField_rec z6 (by simp) fun g7 hz7 s7 => ?_)
  replace hz7 : IsZip g7 z TI TO (rawInt g5.objs.size) := hz7
  refine wpAny_setField_rec hz7 (by simp) fun g8 hz8 s8 => ?_
  replace hz8 : IsZip g8 z TI TO (rawInt g5.objs.size) := hz8
  have up : ∀ c o, c ≠ z → g5.get? c = some o → g8.get? c = some o := fun c o c1 e => s8.extBut _ _ c1 (s7.extBut _ _ c1 (Heap.get?_push_of_some _ e))
  have pT : IsPair g8 g5.objs.size x y := s8.extBut _ _ (Nat.ne_of_gt zlt) (s7.extBut _ _ (Nat.ne_of_gt zlt) (Heap.get?_push_size _ rfl))
  have size8 : g8.objs.size = g5.objs.size + 1 := by rw [s8.1, s7.1, Heap.size_push]
  rw [size5] at hz8 pT size8
  refine wpAny_pure ⟨_, rfl, ?_⟩
  show Q (.ref g5.objs.size) _
  rw [size5]
  exact hQ g8 hz8 (up _ _ D.TOz p5) (b1.to fun o e => up _ o D.i1z e) (b2.to fun o e => up _ o D.i2z e) pT size8 fun c o c1 c2 c3 c4 e => up c o c1 (keep5 c o c1 c2 c3 c4 e)
theorem step_end {Q : Fin → Shared → Prop} (hh : A.handled = none) (D : ZipApart z TI TO i1 i2 l1 l2) (hz : IsZip s.heap z TI TO .none) (hTI : IsPair s.heap TI (.ref i1) (.ref i2)) (hTO : IsPair s.heap TO a b)
    (h1 : ItOf t s.heap i1 l1 k1) (h2 : ItOf u s.heap i2 l2 k2) (hl1 : SqOf t s.heap l1 xs) (hl2 : SqOf u s.heap l2 ys) (hend : xs[k1]? = none ∨ ys[k2]? = none)
    (hE : ∀ h' e, (∀ c o, c ≠ z → c ≠ TO → c ≠ i1 → c ≠ i2 → s.heap.get? c = some o → h'.get? c = some o) → (∃ o, h'.get? e = some o ∧ o.cls = .type "StopIteration") → E (.ref e) { s with heap := h' }) :
    wpAny (model prog w) A (Builtin.«zip.__next__» ⟨[.ref z], []⟩) Q E s := by
  show wpAny _ _ (field (.ref z) 2 >>= _) _ _ _
  refine wpAny_bind (wpAny_field hz rfl (x := .bool false) rfl ?_)
  show wpAny _ _ (field (.ref z) 3 >>= _) _ _ _
  refine wpAny_bind (wpAny_field hz rfl (x := .ref TI) rfl (wpAny_bind (wpAny_seqItems hTI rfl ?_)))
  show wpAny _ _ (Builtin.SmallTypes.ownedTupleIsFree (.ref z) >>= _) _ _ _
  refine wpAny_bind ?_
  unfold Builtin.SmallTypes.ownedTupleIsFree
  refine wpAny_bind (wpAny_field hz rfl (x := .none) rfl (wpAny_pure ?_))
  simp only [if_true]
  refine wpAny_bind (wpAny_rule (wpAny_bind (wpAny_field hz rfl (x := .ref TO) rfl (wpAny_bind (wpAny_setField_rec hz (by simp) fun g1 hz1 s1 => ?_)))))
  replace hz1 : IsZip g1 z TI TO .ellipsis := hz1
  refine wpAny_bind ?_
  simp only [List.zipIdx_cons, List.zipIdx_nil, List.forIn_cons, List.forIn_nil]
  refine wpAny_bind (wpAny_bind (wpAny_onRaise ?_))
  show wpAny _ _ (Builtin.SmallTypes.nextOf (.ref i1) >>= _) _ _ _
  cases hx : xs[k1]? with
  | none =>
    refine wpAny_bind (next_end hh (h1.extBut s1.extBut D.i1z) (hl1.extBut s1.extBut D.l1z) hx fun g2 e s2 ⟨oe, ho, hc⟩ => ?_)
    have hz2 : IsZip g2 z TI TO .ellipsis := s2 _ _ D.i1z.symm hz1
    have ne : e ≠ z := fun q => by
      rw [q, hz2] at ho
      cases ho
      simp at hc
    exact wpAny_setField_rec hz2 (by simp) fun g3 _ s3 => hE g3 e (fun c o c1 _ c3 _ q => s3.extBut _ _ c1 (s2 _ _ c3 (s1.extBut _ _ c1 q))) ⟨oe, s3.extBut _ _ ne ho, hc⟩
  | some x =>
    have hy : ys[k2]? = none := hend.elim (fun q => by rw [hx] at q; cases q) id
    refine wpAny_bind (next_item (h1.extBut s1.extBut D.i1z) (hl1.extBut s1.extBut D.l1z) hx fun g2 _ s2 => wpAny_pure ?_)
    have p2 : IsPair g2 TO a b := s2.extBut _ _ D.TOi1 (s1.extBut _ _ D.TOz hTO)
    refine wpAny_bind (wpAny_seqItems p2 rfl (wpAny_bind (wpAny_updateSeq_pair p2 fun g3 p3 s3 => ?_)))
    refine wpAny_bind (wpAny_letGo (wpAny_pure (wpAny_bind (wpAny_bind (wpAny_onRaise ?_)))))
    show wpAny _ _ (Builtin.SmallTypes.nextOf (.ref i2) >>= _) _ _ _
    have j2 : ItOf u g3 i2 l2 k2 := ((h2.extBut s1.extBut D.i2z).extBut s2.extBut D.i12.symm).extBut s3.extBut D.TOi2.symm
    have m2 : SqOf u g3 l2 ys := ((hl2.extBut s1.extBut D.l2z).extBut s2.extBut D.l2i1).extBut s3.extBut D.l2TO
    refine wpAny_bind (next_end hh j2 m2 hy fun g4 e s4 ⟨oe, ho, hc⟩ => ?_)
    have hz4 : IsZip g4 z TI TO .ellipsis := s4 _ _ D.i2z.symm (s3.extBut _ _ D.TOz.symm (s2.extBut _ _ D.i1z.symm hz1))
    have ne : e ≠ z := fun q => by
      rw [q, hz4] at ho
      cases ho
      simp at hc
    exact wpAny_setField_rec hz4 (by simp) fun g5 _ s5 => hE g5 e (fun c o c1 c2 c3 c4 q => s5.extBut _ _ c1 (s4 _ _ c4 (s3.extBut _ _ c2 (s2.extBut _ _ c3 (s1.extBut _ _ c1 q))))) ⟨oe, s5.extBut _ _ ne ho, hc⟩
theorem py_item {Q : Option Value → Shared → Prop} (D : ZipApart z TI TO i1 i2 l1 l2) (hz : IsZip s.heap z TI TO .none) (hTI : IsPair s.heap TI (.ref i1) (.ref i2)) (hTO : IsPair s.heap TO a b)
    (h1 : ItOf t s.heap i1 l1 k1) (h2 : ItOf u s.heap i2 l2 k2) (hl1 : SqOf t s.heap l1 xs) (hl2 : SqOf u s.heap l2 ys) (hx : xs[k1]? = some x) (hy : ys[k2]? = some y)
    (hQ : ∀ h', IsZip h' z TI TO (rawInt s.heap.objs.size) → IsPair h' TO x y → ItOf t h' i1 l1 (k1 + 1) → ItOf u h' i2 l2 (k2 + 1) → IsPair h' s.heap.objs.size x y → h'.objs.size = s.heap.objs.size + 1 →
      (∀ c o, c ≠ z → c ≠ TO → c ≠ i1 → c ≠ i2 → s.heap.get? c = some o → h'.get? c = some o) → Q (some (.ref s.heap.objs.size)) { s with heap := h' }) : wpAny (model prog w) A (pyNext (.ref z)) Q E s := by
  have hT : s.TypeIs (.ref z) "zip" := ⟨_, hz, rfl⟩
  unfold pyNext
  exact wpAny_bind (wpAny_attempt (wpAny_callSpecial?_slot (name := Str.ofString "__next__") hT F.slot_zip_next (wpAny_call_entry F.slot_zip_next hT F.entry_zip_next
    (step_item D hz hTI hTO h1 h2 hl1 hl2 hx hy fun h' q1 q2 q3 q4 q5 q6 q7 => wpAny_pure (hQ h' q1 q2 q3 q4 q5 q6 q7)) (F.args_zip_next_1 _))))
theorem py_end {Q : Option Value → Shared → Prop} (hh : A.handled = none) (D : ZipApart z TI TO i1 i2 l1 l2) (hz : IsZip s.heap z TI TO .none) (hTI : IsPair s.heap TI (.ref i1) (.ref i2)) (hTO : IsPair s.heap TO a b)
    (h1 : ItOf t s.heap i1 l1 k1) (h2 : ItOf u s.heap i2 l2 k2) (hl1 : SqOf t s.heap l1 xs) (hl2 : SqOf u s.heap l2 ys) (hend : xs[k1]? = none ∨ ys[k2]? = none)
    (hQ : ∀ h', (∀ c o, c ≠ z → c ≠ TO → c ≠ i1 → c ≠ i2 → s.heap.get? c = some o → h'.get? c = some o) → Q none { s with heap := h' }) : wpAny (model prog w) A (pyNext (.ref z)) Q E s := by
  have hT : s.TypeIs (.ref z) "zip" := ⟨_, hz, rfl⟩
  unfold pyNext
  refine wpAny_bind (wpAny_attempt (wpAny_callSpecial?_slot (name := Str.ofString "__next__") hT F.slot_zip_next
    (wpAny_call_entry F.slot_zip_next hT F.entry_zip_next (step_end hh D hz hTI hTO h1 h2 hl1 hl2 hend fun h' e hk ⟨o, ho, hc⟩ => ?_) (F.args_zip_next_1 _))))
  exact wpAny_bind (wpAny_isInstance (T := "StopIteration") (b := true) ⟨o, ho, hc⟩ isSubtype_stop (wpAny_pure (hQ _ hk)))
end
abbrev H1 (t : Bool) (h : Heap) (l : Addr) : Heap := h.push (itObj t l)
abbrev H2 (t u : Bool) (h : Heap) (l m : Addr) : Heap := (H1 t h l).push (itObj u m)
abbrev H3 (t u : Bool) (h : Heap) (l m : Addr) : Heap := (H2 t u h l m).push { cls := .type "tuple", data := .seq #[.ref h.objs.size, .ref (H1 t h l).objs.size] }
abbrev H4 (t u : Bool) (h : Heap) (l m : Addr) : Heap := (H3 t u h l m).push { cls := .type "tuple", data := .seq #[.none, .none] }
abbrev H5 (t u : Bool) (h : Heap) (l m : Addr) : Heap := (H4 t u h l m).push { cls := .type "zip", data := .fields #[.none, .bool false, .bool false, .ref (H2 t u h l m).objs.size, .ref (H3 t u h l m).objs.size] }
theorem SqOf.push {t : Bool} {h : Heap} {l : Addr} {xs : Array Value} (x : SqOf t h l xs) (o : Obj) : SqOf t (h.push o) l xs := by
  cases t
  · obtain ⟨q, e, c⟩ := x
    exact ⟨q, Heap.get?_push_of_some _ e, c⟩
  · obtain ⟨q, e, c⟩ := x
    exact ⟨q, Heap.get?_push_of_some _ e, c⟩
theorem iter_of {prog : Program} {w : World} {A : Around} {E : Value → Shared → Prop} {s : Shared} {t : Bool} {l : Addr} {xs : Array Value} {Q : Value → Shared → Prop} (hl : SqOf t s.heap l xs)
    (h : Q (.ref s.heap.objs.size) { s with heap := s.heap.push (itObj t l) }) : wpAny (model prog w) A (pyIter (.ref l)) Q E s := by
  cases t
  · exact wpAny_pyIter_list hl h
  · exact wpAny_pyIter_tuple hl h
theorem meets_new (t u : Bool) (l m : Addr) (xs ys : Array Value) : Meets (Builtin.«zip.__new__» ⟨[.type "zip", .ref l, .ref m], []⟩) (fun _ R s => SqOf t s.heap l xs ∧ SqOf u s.heap m ys ∧
      R (.ok (.ret (.ref (H4 t u s.heap l m).objs.size))) { s with heap := H5 t u s.heap l m }) :=
  .of_wp fun prog w A R s h => by
    obtain ⟨hp, g, d, tk, os⟩ := s
    obtain ⟨hl1, hl2, h⟩ := h
    have hsub := sub_zip
    have q1 : SqOf t (Shared.heap ⟨hp, g, d, tk, os⟩) l xs := hl1
    have q2 : SqOf u (Shared.heap ⟨hp.push (itObj t l), g, d, tk, os⟩) m ys := hl2.push _
    wp_walk using iter_of q1, iter_of q2
    exact ⟨_, rfl, h⟩
section
variable {prog : Program} {w : World} {A : Around} {E : Value → Shared → Prop} {s : Shared}
theorem itOf_new {t : Bool} {h : Heap} {a l : Addr} (e : h.get? a = some (itObj t l)) : ItOf t h a l 0 := by
  cases t
  · exact ⟨_, e, rfl, rfl⟩
  · exact ⟨_, e, rfl, rfl⟩
theorem call_of {t u : Bool} {l m : Addr} {xs ys : Array Value} {Q : Value → Shared → Prop} (hl1 : SqOf t s.heap l xs) (hl2 : SqOf u s.heap m ys)
    (h : ∀ h', IsZip h' (s.heap.objs.size + 4) (s.heap.objs.size + 2) (s.heap.objs.size + 3) .none → IsPair h' (s.heap.objs.size + 2) (.ref s.heap.objs.size) (.ref (s.heap.objs.size + 1)) →
      IsPair h' (s.heap.objs.size + 3) .none .none → ItOf t h' s.heap.objs.size l 0 → ItOf u h' (s.heap.objs.size + 1) m 0 → h'.objs.size = s.heap.objs.size + 5 →
      (∀ c o, s.heap.get? c = some o → h'.get? c = some o) → Q (.ref (s.heap.objs.size + 4)) { s with heap := h' }) :
    wpAny (model prog w) A (call (.type "zip") [.ref l, .ref m]) Q E s := by
  refine callType_new F.called_zip (by decide) (F.typeCall_zip_2 _ _) (F.newCall_zip_2 _ _) (fun obj => F.args_object_init_3 obj _ _) F.entry_zip_new (meets_new t u l m xs ys) ⟨hl1, hl2, ?_⟩
  have n1 : (H1 t s.heap l).objs.size = s.heap.objs.size + 1 := Heap.size_push ..
  have n2 : (H2 t u s.heap l m).objs.size = s.heap.objs.size + 2 := by rw [Heap.size_push, n1]
  have n3 : (H3 t u s.heap l m).objs.size = s.heap.objs.size + 3 := by rw [Heap.size_push, n2]
  have n4 : (H4 t u s.heap l m).objs.size = s.heap.objs.size + 4 := by rw [Heap.size_push, n3]
  have n5 : (H5 t u s.heap l m).objs.size = s.heap.objs.size + 5 := by rw [Heap.size_push, n4]
  have p1 : ∀ {g : Heap} {o o' : Obj} {c : Addr}, g.get? c = some o → (g.push o').get? c = some o := fun e => Heap.get?_push_of_some _ e
  have e5 : (H5 t u s.heap l m).get? (H4 t u s.heap l m).objs.size = some _ := Heap.get?_push_size _ rfl
  have e4 : (H5 t u s.heap l m).get? (H3 t u s.heap l m).objs.size = some _ := p1 (Heap.get?_push_size _ rfl)
  have e3 : (H5 t u s.heap l m).get? (H2 t u s.heap l m).objs.size = some _ := p1 (p1 (Heap.get?_push_size _ rfl))
  have e2 : (H5 t u s.heap l m).get? (H1 t s.heap l).objs.size = some (itObj u m) := p1 (p1 (p1 (Heap.get?_push_size _ rfl)))
  have e1 : (H5 t u s.heap l m).get? s.heap.objs.size = some (itObj t l) := p1 (p1 (p1 (p1 (Heap.get?_push_size _ rfl))))
  show _ ∧ _
  rw [n2, n3, n4] at e5
  rw [n1, n2] at e3
  rw [n3] at e4
  rw [n1] at e2
  rw [n4]
  exact ⟨⟨_, e5, rfl⟩, h _ e5 e3 e4 (itOf_new e1) (itOf_new e2) n5 fun c o q => p1 (p1 (p1 (p1 (p1 q))))⟩
end
end SMZ

/-! SMZip2: loops and comprehensions over zip. -/
namespace SMZ
open PySem PyProof.Rows RZ L2
/-- a tuple (t) or a list as it stands -/
def SqK (t : Bool) (K : PySem.W.Frag) (H : Hp) (a : Addr) (xs : List V) : Prop := match t with
  | true => SqT K H a xs
  | false => SqL K H a xs
def ItZ (K : PySem.W.Frag) (t u : Bool) (a b : Addr) : It :=
  ⟨fun i H => ∃ (xs ys : List V) (x y : V), SqK t K H a xs ∧ SqK u K H b ys ∧ xs[i]? = some x ∧ ys[i]? = some y,
    fun i H v H' => ∃ T x y, v = .ref T ∧ H T = none ∧ H' = upd H T (.tup [x, y]) ∧ (∀ xs, SqK t K H a xs → xs[i]? = some x) ∧ ∀ ys, SqK u K H b ys → ys[i]? = some y,
    fun i H => ∃ xs ys : List V, SqK t K H a xs ∧ SqK u K H b ys ∧ (xs.length ≤ i ∨ ys.length ≤ i)⟩
section
variable {X : Cx} {pins : List (Addr × Obj)} {σ : L2.St} {H : Hp} {s : Shared} {a : Addr} {xs ys : List V}
theorem sq_at {t : Bool} (I : Inv X pins σ H s) (h : SqK t X.K H a xs) : ∃ its : List Value, Vals xs its ∧ SqOf t s.heap a its.toArray := by
  cases t
  · obtain ⟨its, r, p, _⟩ := I.list h
    exact ⟨its, r, p.isList⟩
  · obtain ⟨its, r, p, _⟩ := I.tuple h
    exact ⟨its, r, p⟩
theorem sq_inj {t : Bool} (I : Inv X pins σ H s) (h : SqK t X.K H a xs) (h' : SqK t X.K H a ys) : xs = ys := by
  cases t
  · exact I.list_inj h h'
  · exact I.tuple_inj h h'
end
theorem five {c z TI TO i1 i2 : Addr} (h : c ∈ [z, TI, TO, i1, i2]) : c = z ∨ c = TI ∨ c = TO ∨ c = i1 ∨ c = i2 := by simpa using h
theorem turn_z {P : Program} {w : World} {K : PySem.W.Frag} {elts : List Expr} {kk : Nat} {tpos : Pos} {t u : Bool} {a b z TI TO i1 i2 : Addr} (D : ZipApart z TI TO i1 i2 a b) :
    Turn P w K (.Tuple elts kk tpos) (ItZ K t u a b) [z, TI, TO, i1, i2] z (fun i h => IsZip h z TI TO .none ∧ IsPair h TI (.ref i1) (.ref i2) ∧ (∃ x y, IsPair h TO x y) ∧ ItOf t h i1 a i ∧ ItOf u h i2 b i) where
  mem := List.mem_cons_self
  obj := fun i h ⟨hz, hTI, ⟨x, y, hTO⟩, h1, h2⟩ c hc => by
    rcases five hc with q | q | q | q | q
    · rw [q]; exact ⟨_, hz, fun v z => nomatch z⟩
    · rw [q]; exact ⟨_, hTI, fun v z => nomatch z⟩
    · rw [q]; exact ⟨_, hTO, fun v z => nomatch z⟩
    · rw [q]; exact h1.there
    · rw [q]; exact h2.there
  keep := fun i h h' ⟨hz, hTI, ⟨x, y, hTO⟩, h1, h2⟩ k =>
    ⟨k z (by simp) _ hz, k TI (by simp) _ hTI, ⟨x, y, k TO (by simp) _ hTO⟩, h1.to fun o q => k i1 (by simp) o q, h2.to fun o q => k i2 (by simp) o q⟩
  item := by
    intro X hP hw hK hc i pins s σ H E I hf ⟨hz, hTI, ⟨x0, y0, hTO⟩, h1, h2⟩ ⟨xs, ys, x, y, hqx, hqy, hx, hy⟩
    subst hP hw hK
    obtain ⟨its, rv, p⟩ := sq_at I hqx
    obtain ⟨its2, rv2, p2⟩ := sq_at I hqy
    obtain ⟨v1, hu, ru⟩ := rv.get hx
    obtain ⟨v2, hu2, ru2⟩ := rv2.get hy
    have zlt : z < s.heap.objs.size := Heap.lt_size hz
    refine py_item D hz hTI hTO h1 h2 p p2 (x := v1) (y := v2) (by simpa using hu) (by simpa using hu2) fun h' z' TO' h1' h2' hT hsz hk => ?_
    refine ⟨_, rfl, wpAny_letOwnedTupleGo_zip (s := { s with heap := h' }) z' fun h'' z'' sb => ?_⟩
    have hT2 : h''.get? s.heap.objs.size = some { cls := .type "tuple", data := .seq #[v1, v2] } := (sb.2 _ (Nat.ne_of_gt zlt)).trans hT
    have two : ([x, y] : List V).length ≤ sizeLine := by show 2 ≤ sizeLine; decide
    have new : ObjOk X.prog X.w (upd H s.heap.objs.size (.tup [x, y])) h'' s.heap.objs.size (.tup [x, y]) := ⟨two, [v1, v2], .cons ru (.cons ru2 .nil), ⟨_, hT2, rfl, _, rfl⟩⟩
    have kept : ∀ c o, c ∉ [z, TI, TO, i1, i2] → s.heap.get? c = some o → h''.get? c = some o := fun c o hb q =>
      (sb.2 c fun q' => hb (by simp [q'])).trans (hk c o (fun q' => hb (by simp [q'])) (fun q' => hb (by simp [q'])) (fun q' => hb (by simp [q'])) (fun q' => hb (by simp [q'])) q)
    have I1 : Inv X pins σ (upd H s.heap.objs.size (.tup [x, y])) { s with heap := h'' } := I.turnedNew (t' := s.toks) (ch := [z, TI, TO, i1, i2]) kept hf (Nat.le_refl _) new
    refine ⟨.ref s.heap.objs.size, _, I1, rfl, ⟨_, x, y, rfl, I.hok.fresh (Nat.le_refl _), rfl, fun l hl => by rw [sq_inj I hl hqx]; exact hx, fun l hl => by rw [sq_inj I hl hqy]; exact hy⟩, ⟨z'', ?_, ⟨v1, v2, ?_⟩, ?_, ?_⟩, fun c hcm => ?_⟩
    · exact (sb.2 _ D.TIz).trans (hk _ _ D.TIz D.TITO D.TIi1 D.TIi2 hTI)
    · exact (sb.2 _ D.TOz).trans TO'
    · exact h1'.to fun o q => (sb.2 _ D.i1z).trans q
    · exact h2'.to fun o q => (sb.2 _ D.i2z).trans q
    · have hlt : c < s.heap.objs.size := by
        rcases five hcm with q | q | q | q | q
        · rw [q]; exact zlt
        · rw [q]; exact Heap.lt_size hTI
        · rw [q]; exact Heap.lt_size hTO
        · rw [q]; obtain ⟨_, e1, _⟩ := h1.there; exact Heap.lt_size e1
        · rw [q]; obtain ⟨_, e2, _⟩ := h2.there; exact Heap.lt_size e2
      rw [upd_ne (Nat.ne_of_lt hlt)]
      exact (hf c hcm).1
  done := by
    intro X hP hw hK hc i pins s σ H E I hf ⟨hz, hTI, ⟨x0, y0, hTO⟩, h1, h2⟩ ⟨xs, ys, hqx, hqy, hend⟩
    subst hP hw hK
    obtain ⟨its, rv, p⟩ := sq_at I hqx
    obtain ⟨its2, rv2, p2⟩ := sq_at I hqy
    have l1 := rv.length
    have l2 := rv2.length
    have he : its.toArray[i]? = none ∨ its2.toArray[i]? = none := hend.elim (fun q => .inl (by simp; omega)) fun q => .inr (by simp; omega)
    exact py_end (I.ok.hd hc) D hz hTI hTO h1 h2 p p2 he fun h' hk => ⟨rfl, I.turnedL (t' := s.toks) (ch := [z, TI, TO, i1, i2]) (fun c o hb q =>
      hk c o (fun q' => hb (by simp [q'])) (fun q' => hb (by simp [q'])) (fun q' => hb (by simp [q'])) (fun q' => hb (by simp [q'])) q) hf⟩
  self := fun A i s Q E st h => wpAny_pyIter_zip st.1 h
def iZ (K : PySem.W.Frag) (ta : TA) : TI := fun σ H R => ta σ H fun vs H1 => ∃ a b xs ys t u, vs = [.ref a, .ref b] ∧ SqK t K H1 a xs ∧ SqK u K H1 b ys ∧ R (ItZ K t u a b) H1
theorem pi_z {X : Cx} {e e2 : Expr} {ta : TA} {p pos tpos : Pos} {elts : List Expr} {kk : Nat} (hg : Gl X "zip") (hm : X.mg "zip" = none) (ha : PA X [e, e2] ta)
    (hs : starEach [e, e2] X.env = (false, eval e X.env) :: starEach [e2] X.env := by rfl) (hpl : (backTo pos (starEach [e2] X.env)).any (·.1) = false := by rfl) :
    PI X (.Tuple elts kk tpos) (.Call (.Name "zip" p) [e, e2] [] pos) (iZ X.K ta) := by
  refine ⟨fun pins s σ H R I h => Call_ (ld_blt I hg hm PyProof.Rows.boot_zip (PyProof.Rows.callWith_type1 (thn (ha.run pos pins s σ H _ I h) fun us s1 ⟨vs, H1, I1, r1, q1⟩ => ?_) hs hpl))⟩
  obtain ⟨a, b, xs, ys, t, u, ex, hqx, hqy, q⟩ := q1
  subst ex
  cases r1 with
  | cons r rr =>
    cases rr with
    | cons r' rr =>
      cases rr
      cases r
      cases r'
      have fresh5 : ∀ c, c ∈ [s1.heap.objs.size + 4, s1.heap.objs.size + 2, s1.heap.objs.size + 3, s1.heap.objs.size, s1.heap.objs.size + 1] → FpOk X pins H1 c := fun c hcm => by
        have hle : s1.heap.objs.size ≤ c := by
          rcases five hcm with z | z | z | z | z
          · rw [z]; exact Nat.le_add_right _ _
          · rw [z]; exact Nat.le_add_right _ _
          · rw [z]; exact Nat.le_add_right _ _
          · rw [z]; exact Nat.le_refl _
          · rw [z]; exact Nat.le_add_right _ _
        exact I1.fpOk hle (I1.hok.fresh hle)
      obtain ⟨its, rv, p1⟩ := sq_at I1 hqx
      obtain ⟨its2, rv2, p2⟩ := sq_at I1 hqy
      refine call_of p1 p2 fun h' hz hTI hTO h1 h2 hsz hk => wpAny_pyIter_zip hz ?_
      have I2 : Inv X pins σ H1 { s1 with heap := h' } := I1.kept (t' := s1.toks) hk
      exact ⟨s1.heap.objs.size + 4, [s1.heap.objs.size + 4, s1.heap.objs.size + 2, s1.heap.objs.size + 3, s1.heap.objs.size, s1.heap.objs.size + 1], _, _, H1, rfl, I2, turn_z (PySem.W.ktu_apart s1.heap.objs.size a b p1.lt p2.lt), ⟨hz, hTI, ⟨_, _, hTO⟩, h1, h2⟩, fresh5, q⟩
end SMZ

/-! SMLoop: targets, loops, comprehensions. -/
namespace SM
open PySem (Str Expr Stmt Pos Operator CmpOp)
open L2 hiding St tB tAnd tOr tNot tYes iRng1 iRng2
def Tg.slots : Tg → List Nat
  | .nm i => [i]
  | .tp is => is
def setS : List Nat → List V → L2.St → L2.St
  | i :: is, v :: vs, σ => setS is vs (σ.set i (some v))
  | _, _, σ => σ
section
variable {K : Frag} {mg : Mg} {w w0 w1 w2 : Rw} {h h' : Heap} {a : Addr} {M M0 M1 : Addr → Prop} {r : Env} {σ : L2.St}
theorem wipe_get (σ : L2.St) (i : Nat) : ∀ vs : List Nat, (wipe σ vs)[i]? = if i ∈ vs then σ[i]?.map (fun _ => none) else σ[i]?
  | [] => by simp [wipe]
  | v :: vs => by
    show ((wipe σ vs).set v none)[i]? = _
    rw [List.getElem?_set]
    have ih := wipe_get σ i vs
    have hl : (wipe σ vs).length = σ.length := wipe_length σ vs
    by_cases hv : v = i
    · subst hv
      rw [if_pos rfl, if_pos List.mem_cons_self, hl]
      by_cases hlt : v < σ.length
      · rw [if_pos hlt, List.getElem?_eq_getElem hlt]
        rfl
      · rw [if_neg hlt, List.getElem?_eq_none (Nat.not_lt.mp hlt)]
        rfl
    · rw [if_neg hv, ih]
      by_cases hm : i ∈ vs
      · rw [if_pos hm, if_pos (List.mem_cons_of_mem _ hm)]
      · rw [if_neg hm, if_neg]
        intro z
        rcases List.mem_cons.mp z with z | z
        · exact hv z.symm
        · exact hm z
theorem wipe_set {i : Nat} {x : Option V} {vs : List Nat} (hi : i ∈ vs) : wipe (σ.set i x) vs = wipe σ vs := by
  apply List.ext_getElem?
  intro j
  rw [wipe_get, wipe_get]
  by_cases hj : j ∈ vs
  · rw [if_pos hj, if_pos hj, List.getElem?_set]
    by_cases e : i = j
    · subst e
      rw [if_pos rfl]
      by_cases hlt : i < σ.length
      · rw [if_pos hlt, List.getElem?_eq_getElem hlt]
        rfl
      · rw [if_neg hlt, List.getElem?_eq_none (Nat.not_lt.mp hlt)]
    · rw [if_neg e]
  · rw [if_neg hj, if_neg hj, List.getElem?_set_ne]
    intro e
    exact hj (e ▸ hi)
theorem wipe_wipe (σ : L2.St) (vs : List Nat) : wipe (wipe σ vs) vs = wipe σ vs := by
  apply List.ext_getElem?
  intro j
  rw [wipe_get, wipe_get]
  by_cases hj : j ∈ vs
  · rw [if_pos hj, if_pos hj]
    cases σ[j]? <;> rfl
  · rw [if_neg hj, if_neg hj]
theorem wipe_setS {vs : List Nat} : ∀ (is : List Nat) (us : List V) (σ : L2.St), (∀ i, i ∈ is → i ∈ vs) → wipe (setS is us σ) vs = wipe σ vs
  | [], _, _, _ => by
    unfold setS
    rfl
  | i :: is, [], _, _ => rfl
  | i :: is, u :: us, σ, hm => by
    show wipe (setS is us (σ.set i (some u))) vs = _
    rw [wipe_setS is us _ fun j hj => hm j (List.mem_cons_of_mem _ hj), wipe_set (hm i List.mem_cons_self)]
theorem wipeE_get (r : Env) (i : Nat) : ∀ vs : List Nat, (wipeE r vs)[i]? = if i ∈ vs then r[i]?.map (fun _ => none) else r[i]?
  | [] => by simp [wipeE]
  | v :: vs => by
    show ((wipeE r vs).set v none)[i]? = _
    rw [List.getElem?_set]
    have ih := wipeE_get r i vs
    have hl : ∀ vs : List Nat, (wipeE r vs).length = r.length := by
      intro vs
      induction vs with
      | nil => rfl
      | cons v vs ih => show ((wipeE r vs).set v none).length = _; rw [List.length_set, ih]
    by_cases hv : v = i
    · subst hv
      rw [if_pos rfl, if_pos List.mem_cons_self, hl]
      by_cases hlt : v < r.length
      · rw [if_pos hlt, List.getElem?_eq_getElem hlt]
        rfl
      · rw [if_neg hlt, List.getElem?_eq_none (Nat.not_lt.mp hlt)]
        rfl
    · rw [if_neg hv, ih]
      by_cases hm : i ∈ vs
      · rw [if_pos hm, if_pos (List.mem_cons_of_mem _ hm)]
      · rw [if_neg hm, if_neg]
        intro z
        rcases List.mem_cons.mp z with z | z
        · exact hv z.symm
        · exact hm z
theorem wipeE_len (r : Env) : ∀ vs : List Nat, (wipeE r vs).length = r.length
  | [] => rfl
  | v :: vs => by
    show ((wipeE r vs).set v none).length = _
    rw [List.length_set, wipeE_len r vs]
theorem Rel.wipe (R : Rel K mg w r h σ) (vs : List Nat) : Rel K mg w (wipeE r vs) h (wipe σ vs) := by
  have back : ∀ {i : Nat} {x : RV}, (wipeE r vs)[i]? = some (some x) → r[i]? = some (some x) ∧ i ∉ vs := by
    intro i x e
    rw [wipeE_get] at e
    by_cases hi : i ∈ vs
    · rw [if_pos hi] at e
      cases q : r[i]? with
      | none => rw [q] at e; cases e
      | some o => rw [q] at e; cases e
    · rw [if_neg hi] at e
      exact ⟨e, hi⟩
  have backS : ∀ {i : Nat} {x : V}, i ∉ vs → (L2.wipe σ vs)[i]? = σ[i]? := by
    intro i x hi
    rw [wipe_get, if_neg hi]
  have ow : ∀ a, owns (wipeE r vs) (L2.wipe σ vs) a → owns r σ a := by
    rintro a ⟨i, xs, e1, e2⟩
    obtain ⟨f1, hi⟩ := back e1
    rw [wipe_get, if_neg hi] at e2
    exact ⟨i, xs, f1, e2⟩
  refine ⟨R.hp, by rw [wipe_length, wipeE_len]; exact R.len, fun i x e => ?_, fun i j xs ys a e1 e2 e3 e4 => ?_⟩
  · obtain ⟨f1, hi⟩ := back e
    obtain ⟨v, f2, s⟩ := R.sl i x f1
    refine ⟨v, by rw [wipe_get, if_neg hi]; exact f2, ?_⟩
    cases x with
    | v x => exact s
    | own x => exact s
    | view x =>
      obtain ⟨a, ys, e, ⟨s1, s2⟩, s3⟩ := s
      exact ⟨a, ys, e, ⟨s1, fun o => s2 (ow a o)⟩, s3⟩
  · obtain ⟨f1, h1⟩ := back e1
    obtain ⟨f2, h2⟩ := back e2
    rw [wipe_get, if_neg h1] at e3
    rw [wipe_get, if_neg h2] at e4
    exact R.own1 i j xs ys a f1 f2 e3 e4
/-- any state is one behind itself -/
theorem Rel.self (R : Rel K mg w r h σ) : RelS K mg w (owns r σ) w r h σ := ⟨R, LeS.refl, fun _ o => .inl o⟩
theorem RelS.setAll : ∀ {is : List Nat} {xs : List Val} {vs : List V} {r : Env} {σ : L2.St}, RelS K mg w0 M0 w r h σ → RVals K w xs vs → RelS K mg w0 M0 w (SM.setAll is xs r) h (setS is vs σ)
  | [], xs, vs, r, σ, R, q => by
    unfold SM.setAll setS
    exact R
  | i :: is, [], vs, r, σ, R, q => by
    have e : vs = [] := q
    subst e
    exact R
  | i :: is, x :: xs, vs, r, σ, R, ⟨v, us, e, q1, q2⟩ => by
    subst e
    show RelS K mg w0 M0 w (SM.setAll is xs (r.set i (some (.v x)))) h (setS is us (σ.set i (some v)))
    exact RelS.setAll (R.set_v (i := i) q1) q2
theorem owns_P (R : Rel K mg w r h σ) : ∀ b, owns r σ b → w.P b := by
  rintro b ⟨i, xs, e1, e2⟩
  obtain ⟨v, e3, a, ys, e4, s1, s2, s3, s4⟩ := R.sl i _ e1
  rw [e2] at e3
  cases e3
  cases e4
  exact s3
theorem owns_some (R : Rel K mg w r h σ) : ∀ b, owns r σ b → ∃ o, w.H b = some o := fun b o => R.hp.ph b (owns_P R b o)
/-- a target takes a value -/
def tG (K : Frag) (mg : Mg) (g : Tg) : TG := fun v σ H Q => ∃ w0 M0 w r h x r1, w.H = H ∧ RelS K mg w0 M0 w r h σ ∧ RVal K w x v ∧ g.put x r = some r1 ∧
  ∀ σ1, RelS K mg w0 M0 w r1 h σ1 → (∀ vs, (∀ i, i ∈ g.slots → i ∈ vs) → wipe σ1 vs = wipe σ vs) → Q σ1 H
end
section
variable {X : Cx} {W : WX} {w0 : Rw} {M0 : Addr → Prop} {pos pos' : Pos} {a b c e tg : Expr} {fa fb fc : E} {ga gb : T} {es : List Expr} {fs : A} {st : Stmt} {sts : List Stmt} {f g : S}
abbrev PGt (X : Cx) (tg : Expr) (g : Tg) : Prop := PG X tg (tG X.K X.mg g)
theorem PG.weak {t t' : TG} (p : PG X tg t) (c : ∀ v σ H Q, t' v σ H Q → t v σ H Q) : PG X tg t' := ⟨fun pins s σ H v u Q I r q => p.run pins s σ H v u Q I r (c v σ H Q q)⟩
theorem PGs.weak {t t' : TGs} (p : PGs X es t) (c : ∀ v σ H Q, t' v σ H Q → t v σ H Q) : PGs X es t' := ⟨fun pins s σ H v u Q I r q => p.run pins s σ H v u Q I r (c v σ H Q q)⟩
theorem g_nm (i : Nat) {x : Str} (hN : X.N.Nodup) (hi : X.N[i]? = some x := by rfl) (hx : Loc X.env.scope x := by first | exact Or.inl rfl | exact Or.inr rfl) (hf : X.fn x = true ∨ X.env.scope.names.lookup x = some .local := by first | exact .inl rfl | exact .inr rfl | assumption) : PGt X (.Name x pos) (.nm i) :=
  PG.weak (pg_name hN hi hx hf) fun v σ H Q ⟨w0, M0, w, r, h, x, r1, e, R, q, p, k⟩ => by
    subst e
    have p : some (r.set i (some (.v x))) = some r1 := p
    cases p
    exact k _ (R.set_v (i := i) q) fun vs hv => wipe_set (hv i List.mem_cons_self)
def tGs (is : List Nat) : TGs := fun vs σ H Q => vs.length = is.length ∧ Q (setS is vs σ) H
theorem gs_nil : PGs X [] (tGs []) := PGs.weak pgs_nil fun vs σ H Q ⟨e, q⟩ => by
  have e2 : vs = [] := List.eq_nil_of_length_eq_zero e
  subst e2
  exact ⟨rfl, q⟩
theorem gs_cons (i : Nat) {is : List Nat} {x : Str} (hN : X.N.Nodup) (hr : PGs X es (tGs is)) (hi : X.N[i]? = some x := by rfl) (hx : Loc X.env.scope x := by first | exact Or.inl rfl | exact Or.inr rfl) (hf : X.fn x = true ∨ X.env.scope.names.lookup x = some .local := by first | exact .inl rfl | exact .inr rfl | assumption)
    (hs : (PySem.assignEach (.Name x pos :: es) X.env).map (·.2) = PySem.assign (.Name x pos) X.env :: (PySem.assignEach es X.env).map (·.2) := by rfl) : PGs X (.Name x pos :: es) (tGs (i :: is)) :=
  PGs.weak (pgs_cons (pg_name hN hi hx hf) hr hs) fun vs σ H Q ⟨e, q⟩ => by
    cases vs with
    | nil => cases e
    | cons v vs => exact ⟨v, vs, rfl, Nat.succ.inj e, q⟩
theorem g_tp {k : Nat} {is : List Nat} (hc : X.calm = true) (hg : PGs X es (tGs is)) (hn : (PySem.assignEach es X.env).length = is.length := by rfl) (hst : (PySem.assignEach es X.env).findIdx? (·.1) = none := by rfl) : PGt X (.Tuple es k pos) (.tp is) :=
  PG.weak (pg_tup hc hg hn hst) fun v σ H Q ⟨w0, M0, w, r, h, x, r1, e, R, q, p, k⟩ => by
    subst e
    cases x with
    | tup xs =>
      have p : (if xs.length = is.length then some (SM.setAll is xs r) else none) = some r1 := p
      split at p
      · rename_i hl
        cases p
        obtain ⟨a, ys, e1, s, q1⟩ := q
        refine ⟨a, ys, e1, s.sqt, by rw [← q1.length]; exact hl, by rw [← q1.length]; exact hl, ?_⟩
        exact k _ (R.setAll q1) fun vs hv => wipe_setS is ys σ hv
      · cases p
    | _ => cases p
/-- a, b, .. = e, e a tuple -/
theorem b_unp {k : Nat} {is : List Nat} (hc : X.calm = true) (ha : PEs X W a fa) (hg : PGs X es (tGs is)) (hn : (PySem.assignEach es X.env).length = is.length := by rfl) (hst : (PySem.assignEach es X.env).findIdx? (·.1) = none := by rfl)
    (hs : PySem.swapsWithSole [.Tuple es k pos'] a pos.line X.env = pure false := by rfl) (hw : PySem.swappedStores [.Tuple es k pos'] a X.env = pure none := by rfl)
    (h1 : (PySem.assignEach [.Tuple es k pos'] X.env).map (·.2) = [PySem.assign (.Tuple es k pos') X.env] := by rfl) : PSs' X W w0 M0 (.Assign [.Tuple es k pos'] a pos) (sUnp is fa) :=
  PS.weak (ps_asg ha (pg_tup hc hg hn hst) hs hw h1) fun D σ H ⟨w, r, h, e, R, k⟩ => by
    subst e
    refine ⟨w, r, h, rfl, R.rel, SK.cut R (fun x h1 w1 v1 l1 R1 q1 k1 => ?_) k⟩
    split at k1
    · rename_i xs
      split at k1
      · rename_i hl
        obtain ⟨a, ys, e1, s, q2⟩ := q1
        exact ⟨a, ys, e1, s.sqt, by rw [← RVals.length q2]; exact hl, by rw [← RVals.length q2]; exact hl, k1 w1 _ ((R.le' l1 R1).setAll q2)⟩
      · exact k1.elim
    · exact k1.elim
/-- a, b = x, y, two local names -/
theorem b_par2 (i j : Nat) {x y : Str} {px py pt : Pos} {kt k2 : Nat} {pt2 : Pos} (hc : X.calm = true) (hN : X.N.Nodup) (ha : PEs X W a fa) (hb : PEs X W b fb) (hi : X.N[i]? = some x := by rfl) (hj : X.N[j]? = some y := by rfl) (hij : i ≠ j := by decide)
    (hx : X.env.scope.names.lookup x = some .local := by rfl) (hy : X.env.scope.names.lookup y = some .local := by rfl)
    (hw : PySem.swappedStores [.Tuple [.Name x px, .Name y py] kt pt] (.Tuple [a, b] k2 pt2) X.env = pure (some [x, y]) := by rfl)
    (hs : PySem.swapsWithSole [.Tuple [.Name x px, .Name y py] kt pt] (.Tuple [a, b] k2 pt2) pos.line X.env = pure false := by rfl)
    (h1 : PySem.starEach [a, b] X.env = (false, PySem.eval a X.env) :: PySem.starEach [b] X.env := by rfl) (h2 : PySem.starEach [b] X.env = (false, PySem.eval b X.env) :: PySem.starEach [] X.env := by rfl) :
    PSs' X W w0 M0 (.Assign [.Tuple [.Name x px, .Name y py] kt pt] (.Tuple [a, b] k2 pt2) pos) (sPar2 i j fa fb) :=
  PS.weak (ps_par hc hN hi hj hij hx hy (pa_cons ha (pa_cons hb pa_nil h2) h1) hw hs) fun D σ H ⟨w, r, h, e, R, k⟩ => by
    subst e
    refine ⟨w, r, h, rfl, R.rel, SK.cut R (fun x h1 w1 v1 l1 R1 q1 k1 => ?_) k⟩
    split at k1
    · rename_i y hy
      obtain ⟨w2, eH, l2, R2, q2⟩ := q1.keep R1 l1 hy
      refine ⟨w2, r, h1, eH, R.rel.le l2 R2, SK.cut (R.le' l2 R2) (fun z h3 w3 v3 l3 R3 q3 k3 => ?_) k1⟩
      split at k3
      · rename_i u hu
        obtain ⟨w4, eH4, l4, R4, q4⟩ := q3.keep R3 l3 hu
        refine ⟨v1, v3, rfl, ?_⟩
        have := k3 w4 _ (((R.le' (l2.trans l4) R4).set_v (i := i) (q2.le R2 l4)).set_v (i := j) q4)
        rw [eH4] at this
        exact this
      · exact k3.elim
    · exact k1.elim
theorem b_while (n : Nat) (hp : PySem.PassesOwn (PySem.model X.prog X.w) X.A X.env X.xe) (hc : PTs' X W c ga) (hb : PBs X W w0 M0 sts f) : PSs' X W w0 M0 (.While c sts [] pos) (sWhile ga f n) :=
  PS.weak (ps_while hp hc hb) fun D σ H ⟨w, r, h, e, R, k⟩ => by
    subst e
    refine ⟨fun m σ H => ∃ w r h, w.H = H ∧ RelS X.K X.mg w0 M0 w r h σ ∧ SK X.K X.mg W w0 M0 D (sWhile ga f m r h), ⟨n, w, r, h, rfl, R, k⟩, ?_⟩
    rintro m σ H ⟨w, r, h, rfl, R, k⟩
    cases m with
    | zero => exact k.elim
    | succ m =>
      refine ⟨w, r, h, rfl, R.rel, SK.cutT R (fun b h1 w1 l1 R1 k1 => ?_) k⟩
      cases b with
      | false =>
        rw [if_neg Bool.false_ne_true] at k1 ⊢
        exact k1 w1 σ (R.le' l1 R1)
      | true =>
        rw [if_pos rfl] at k1 ⊢
        refine ⟨fun σ H => ∃ w r h, w.H = H ∧ RelS X.K X.mg w0 M0 w r h σ ∧ SK X.K X.mg W w0 M0 D (sWhile ga f m r h), fun σ' H' z => ⟨m, Nat.lt_succ_self _, z⟩, w1, r, h1, rfl, R.le' l1 R1, ?_⟩
        cases hf : f r h1 with
        | nx r2 h2 =>
          rw [hf] at k1
          exact fun w2 σ2 R2 => ⟨w2, r2, h2, rfl, R2, k1⟩
        | ct r2 h2 =>
          rw [hf] at k1
          exact fun w2 σ2 R2 => ⟨w2, r2, h2, rfl, R2, k1⟩
        | bk r2 h2 =>
          rw [hf] at k1
          exact k1
        | rt x h2 =>
          rw [hf] at k1
          exact k1
        | ex e r2 h2 =>
          rw [hf] at k1
          exact k1
        | no =>
          rw [hf] at k1
          exact k1
end

/-! ### what is walked -/
section
variable {K : Frag} {mg : Mg}
/-- J gives the items xs, wherever the lists at ow may change and the objects at dep do not -/
def Wk (K : Frag) (mg : Mg) (ow : Addr → Prop) (w : Rw) (h : Heap) (J : It) (xs : List Val) (dep : List Nat) : Prop := ∀ w2 h2, LeS ow w w2 → RHp K mg w2 h2 → Same dep h h2 →
  (∀ i, i < xs.length → J.go i w2.H) ∧ J.stop xs.length w2.H ∧ ∀ i x H', i < xs.length → J.yld i w2.H x H' → ∃ w3 y, w3.H = H' ∧ Le w2 w3 ∧ RHp K mg w3 h2 ∧ xs[i]? = some y ∧ RVal K w3 y x
def IK (K : Frag) (mg : Mg) (W : WX) (ow : Addr → Prop) (w : Rw) (σ : L2.St) (R : It → Hp → Prop) : EO (List Val × List Nat) → Prop
  | .ok p h => ∀ w' J, Le w w' → RHp K mg w' h → Wk K mg ow w' h J p.1 p.2 → R J w'.H
  | .ex e h => ∀ w' cls d, Le w w' → RHp K mg w' h → RExn K mg w' e cls d → W cls d σ w'.H
  | .no => False
def tI (K : Frag) (mg : Mg) (W : WX) (f : I) : TI := fun σ H R => ∃ w r h, w.H = H ∧ Rel K mg w r h σ ∧ IK K mg W (owns r σ) w σ R (f r h)
/-- .. within an expression -/
def tIe (K : Frag) (mg : Mg) (W : WX) (f : I) : TI := fun σ H R => ∃ w r h, w.H = H ∧ Rel K mg w r h σ ∧ IK K mg W (fun _ => False) w σ R (f r h)
theorem IK.le {W : WX} {w w1 : Rw} {ow : Addr → Prop} {σ : L2.St} {R : It → Hp → Prop} (l : Le w w1) : ∀ {o : EO (List Val × List Nat)}, IK K mg W ow w σ R o → IK K mg W ow w1 σ R o
  | .ok x h, k => fun w' v l' hp q => k w' v (l.trans l') hp q
  | .ex e h, k => fun w' cls d l' hp q => k w' cls d (l.trans l') hp q
  | .no, k => k
theorem EK.cutI {W : WX} {w : Rw} {ow : Addr → Prop} {σ : L2.St} {R : It → Hp → Prop} {Q' : VK} {f : RV → Heap → EO (List Val × List Nat)} (c : ∀ x h1 w1 v1, Le w w1 → RHp K mg w1 h1 → RRes K w w1 x v1 → IK K mg W ow w σ R (f x h1) → Q' v1 w1.H) :
    ∀ {o : EO RV}, IK K mg W ow w σ R (o.bind f) → EK K mg W w σ Q' o
  | .ok x h, k => fun w' v l hp q => c x h w' v l hp q k
  | .ex e h, k => k
  | .no, k => k
theorem LeS.mono {M M1 : Addr → Prop} {w w1 : Rw} (l : LeS M w w1) (hM : ∀ b, M b → M1 b) : LeS M1 w w1 := ⟨l.n, l.io, fun b o e u z => l.keep b o e u fun q => z (hM b q), l.there, l.P, fun b o e z => l.P2 b o e fun q => z (hM b q), l.new⟩
theorem IK.toE {W : WX} {w : Rw} {ow : Addr → Prop} {σ : L2.St} {R : It → Hp → Prop} : ∀ {o : EO (List Val × List Nat)}, IK K mg W (fun _ => False) w σ R o → IK K mg W ow w σ R o
  | .ok x h, k => fun w' J l hp q => k w' J l hp fun w2 h2 l2 => q w2 h2 (l2.mono fun _ z => z.elim)
  | .ex e h, k => k
  | .no, k => k
/-- a sequence stays, wherever the lists at ow may change and the objects at dep do not -/
def SeqSt (K : Frag) (mg : Mg) (ow : Addr → Prop) (w : Rw) (h : Heap) (dep : List Nat) (t : Bool) (a : Addr) (xs : List Val) : Prop :=
  ∀ w2 h2, LeS ow w w2 → RHp K mg w2 h2 → Same dep h h2 → ∃ ys, SMZ.SqK t K w2.H a ys ∧ RVals K w2 xs ys
theorem SeqSt.le {ow : Addr → Prop} {w w1 : Rw} {h h1 : Heap} {dep : List Nat} {t : Bool} {a : Addr} {xs : List Val} (s : SeqSt K mg ow w h dep t a xs) (l : Le w w1) (e : Same dep h h1) : SeqSt K mg ow w1 h1 dep t a xs :=
  fun w2 h2 l2 R2 e2 => s w2 h2 ((l.s (M := ow)).trans l2 fun b z => .inl z) R2 fun n hn => (e2 n hn).trans (e n hn)
theorem seqSt_e {ow : Addr → Prop} {w0 w : Rw} {h : Heap} {x : RV} {v : V} {t : Bool} {xs : List Val} {dep : List Nat} (R : RHp K mg w h) (hP : ∀ b, ow b → w.P b) (hf : ∀ b, ow b → ∃ o, w0.H b = some o) (q : RRes K w0 w x v) (e : seqV h x = some (t, xs, dep)) :
    ∃ a, v = .ref a ∧ SeqSt K mg ow w h dep t a xs := by
  cases x with
  | view vs => cases e
  | own vs =>
    have e : some (false, vs, []) = some (t, xs, dep) := e
    cases e
    obtain ⟨a, ys, e1, e0, s, q, hp, u⟩ := q
    refine ⟨a, e1, fun w2 h2 l R2 _ => ⟨ys, .of (l.keep a _ s u fun z => ?_), q.leS R hP l⟩⟩
    obtain ⟨o, eo⟩ := hf a z
    rw [e0] at eo
    cases eo
  | v x =>
    cases x with
    | tup vs =>
      have e : some (true, vs, []) = some (t, xs, dep) := e
      cases e
      obtain ⟨a, ys, e1, s, q⟩ := q
      exact ⟨a, e1, fun w2 h2 l R2 _ => ⟨ys, (s.leS R hP l).sqt, q.leS R hP l⟩⟩
    | ro vs =>
      have e : some (false, vs, []) = some (t, xs, dep) := e
      cases e
      obtain ⟨a, ys, e1, s, q⟩ := q
      exact ⟨a, e1, fun w2 h2 l R2 _ => ⟨ys, (s.leS R hP l).sql, q.leS R hP l⟩⟩
    | scr vs =>
      have e : some (false, vs, []) = some (t, xs, dep) := e
      cases e
      obtain ⟨a, ys, e1, s, q⟩ := q
      exact ⟨a, e1, fun w2 h2 l R2 _ => ⟨ys, (s.leS R hP l).sql, q.leS R hP l⟩⟩
    | obj n =>
      have e : (match h[n]? with
        | some (.lst xs) => some (false, xs, [n])
        | _ => none) = some (t, xs, dep) := e
      obtain ⟨hk, ev⟩ := q
      split at e
      · rename_i vs hn
        cases e
        refine ⟨_, ev, fun w2 h2 l R2 sm => ?_⟩
        obtain ⟨ys, e1, q1⟩ := R2.obj n _ ((sm n List.mem_cons_self).trans hn)
        rw [l.io n hk] at e1
        exact ⟨ys, .of e1, q1⟩
      · cases e
    | _ => cases e
theorem seqSt_E {w0 w : Rw} {h : Heap} {x : RV} {v : V} {t : Bool} {xs : List Val} {dep : List Nat} (R : RHp K mg w h) (q : RRes K w0 w x v) (e : seqE h x = some (t, xs, dep)) :
    ∃ a, v = .ref a ∧ SeqSt K mg (fun _ => False) w h dep t a xs := by
  cases x with
  | view vs =>
    have e : some (false, vs, []) = some (t, xs, dep) := e
    cases e
    obtain ⟨a, ys, e1, s, q⟩ := q
    exact ⟨a, e1, fun w2 h2 l R2 _ => ⟨ys, .of (l.keep a _ s.1 s.2 id), q.leS R (fun _ z => z.elim) l⟩⟩
  | own vs => exact seqSt_e R (fun _ z => z.elim) (fun _ z => z.elim) q e
  | v x => exact seqSt_e R (fun _ z => z.elim) (fun _ z => z.elim) q e
end
section
variable {X : Cx} {tg : Expr}
/-- a list or a tuple that is walked -/
def iAny (K : Frag) (tl : TE) : TI := fun σ H R => tl σ H fun x H1 => ∃ a t, x = .ref a ∧ (∃ xs, SMZ.SqK t K H1 a xs) ∧ R (if t then Itt K a else Itl K a) H1
open PySem in
theorem pi_any {l : Expr} {tl : TE} (hl : PE X l tl) : PI X tg l (iAny X.K tl) := by
  refine ⟨fun pins s σ H R Iv hw => thn (hl.run pins s σ H _ Iv hw) fun v s1 ⟨x, H1, I1, r1, a, t, ex, ⟨xs, hq⟩, q⟩ => ?_⟩
  subst ex
  cases r1
  have fresh1 : ∀ b ∈ [s1.heap.objs.size], FpOk X pins H1 b := fun b hb => by
    have eb : b = s1.heap.objs.size := by simpa using hb
    rw [eb]
    exact I1.fpOk (Nat.le_refl _) (I1.hok.fresh (Nat.le_refl _))
  cases t with
  | false =>
    obtain ⟨its, rv, p, hz⟩ := I1.list hq
    exact wpAny_pyIter_list p.isList ⟨s1.heap.objs.size, [s1.heap.objs.size], _, _, H1, rfl, I1.kept (t' := s1.toks) fun b o e => Heap.get?_push_of_some _ e, turn_list a _, ⟨_, Heap.get?_push_size _ rfl, rfl, rfl⟩, fresh1, q⟩
  | true =>
    obtain ⟨its, rv, p, hz⟩ := I1.tuple hq
    exact wpAny_pyIter_tuple p ⟨s1.heap.objs.size, [s1.heap.objs.size], _, _, H1, rfl, I1.kept (t' := s1.toks) fun b o e => Heap.get?_push_of_some _ e, turn_tuple a _, ⟨_, Heap.get?_push_size _ rfl, rfl, rfl⟩, fresh1, q⟩
end
section
variable {K : Frag} {mg : Mg} {w w0 : Rw} {h : Heap} {a b : Addr} {ow : Addr → Prop} {dep d2 : List Nat}
theorem wk_seq {t : Bool} {xs : List Val} (s : SeqSt K mg ow w h dep t a xs) : Wk K mg ow w h (if t then Itt K a else Itl K a) xs dep := fun w2 h2 l R2 sm => by
  obtain ⟨ys, s, q2⟩ := s w2 h2 l R2 sm
  cases t with
  | false =>
    refine ⟨fun i hi => ?_, ⟨ys, s, by rw [q2.length]; exact Nat.le_refl _⟩, fun i x H' hi ⟨e, y⟩ => ?_⟩
    · obtain ⟨v, hv, _⟩ := q2.get (List.getElem?_eq_getElem hi)
      exact ⟨ys, v, s, hv⟩
    · obtain ⟨z, hz, qz⟩ := q2.get' (y ys s)
      exact ⟨w2, z, e.symm, Le.refl w2, R2, hz, qz⟩
  | true =>
    refine ⟨fun i hi => ?_, ⟨ys, s, by rw [q2.length]; exact Nat.le_refl _⟩, fun i x H' hi ⟨e, y⟩ => ?_⟩
    · obtain ⟨v, hv, _⟩ := q2.get (List.getElem?_eq_getElem hi)
      exact ⟨ys, v, s, hv⟩
    · obtain ⟨z, hz, qz⟩ := q2.get' (y ys s)
      exact ⟨w2, z, e.symm, Le.refl w2, R2, hz, qz⟩
theorem pairs_len : ∀ xs ys : List Val, (pairs xs ys).length = min xs.length ys.length
  | [], ys => by simp [pairs]
  | x :: xs, [] => by simp [pairs]
  | x :: xs, y :: ys => by
    show (pairs xs ys).length + 1 = min (xs.length + 1) (ys.length + 1)
    rw [pairs_len xs ys]
    omega
theorem pairs_get : ∀ (xs ys : List Val) (i : Nat) (x y : Val), xs[i]? = some x → ys[i]? = some y → (pairs xs ys)[i]? = some (.tup [x, y])
  | x :: xs, y :: ys, 0, _, _, e1, e2 => by
    have e1 : some x = some _ := e1
    have e2 : some y = some _ := e2
    cases e1
    cases e2
    rfl
  | x :: xs, y :: ys, i + 1, u, v, e1, e2 => pairs_get xs ys i u v e1 e2
  | [], _, _, _, _, e1, _ => by simp at e1
  | _ :: _, [], _, _, _, _, e2 => by simp at e2
theorem wk_zip {t u : Bool} {xs ys : List Val} (s1 : SeqSt K mg ow w h dep t a xs) (s2 : SeqSt K mg ow w h d2 u b ys) : Wk K mg ow w h (SMZ.ItZ K t u a b) (pairs xs ys) (dep ++ d2) := fun w2 h2 l R2 sm => by
  obtain ⟨vs, sv, qv⟩ := s1 w2 h2 l R2 fun n hn => sm n (List.mem_append_left _ hn)
  obtain ⟨us, su, qu⟩ := s2 w2 h2 l R2 fun n hn => sm n (List.mem_append_right _ hn)
  have l1 := qv.length
  have l2 := qu.length
  rw [pairs_len]
  refine ⟨fun i hi => ?_, ⟨vs, us, sv, su, by omega⟩, fun i x H' hi ⟨T, x1, x2, ex, hT, eH, f1, f2⟩ => ?_⟩
  · obtain ⟨v, hv, _⟩ := qv.get (List.getElem?_eq_getElem (show i < xs.length by omega))
    obtain ⟨u, hu, _⟩ := qu.get (List.getElem?_eq_getElem (show i < ys.length by omega))
    exact ⟨vs, us, v, u, sv, su, hv, hu⟩
  · obtain ⟨z1, hz1, qz1⟩ := qv.get' (f1 vs sv)
    obtain ⟨z2, hz2, qz2⟩ := qu.get' (f2 us su)
    subst ex eH
    exact ⟨w2.newT T [x1, x2], _, rfl, Le.newT hT, R2.newT hT, pairs_get xs ys i z1 z2 hz1 hz2, res_newT (xs := [z1, z2]) R2 hT ⟨x1, [x2], rfl, qz1, x2, [], rfl, qz2, rfl⟩⟩
theorem upTo_len : ∀ (n : Nat) (lo : Int), (upTo lo n).length = n
  | 0, _ => rfl
  | n + 1, lo => by
    show (upTo (lo + 1) n).length + 1 = n + 1
    rw [upTo_len n]
theorem upTo_get : ∀ (n : Nat) (lo : Int) (i : Nat), i < n → (upTo lo n)[i]? = some (.int (lo + i))
  | n + 1, lo, 0, _ => by
    show some (Val.int lo) = _
    simp
  | n + 1, lo, i + 1, h => by
    show (upTo (lo + 1) n)[i]? = _
    rw [upTo_get n (lo + 1) i (by omega)]
    congr 2
    push_cast
    omega
theorem wk_range {lo : Int} {n : Nat} : Wk K mg ow w h (Itr lo n) (upTo lo n) [] := fun w2 h2 l R2 _ => by
  rw [upTo_len]
  refine ⟨fun i hi => hi, Nat.le_refl _, fun i x H' hi ⟨e, y⟩ => ?_⟩
  subst y
  exact ⟨w2, _, e.symm, Le.refl w2, R2, upTo_get n lo i hi, rfl⟩
theorem chkS_SK {W : WX} {w0 : Rw} {M0 : Addr → Prop} {D : Ends} {h0 h : Heap} {k : SO} (q : SK K mg W w0 M0 D (chkS dep h0 h k)) : Same dep h0 h ∧ SK K mg W w0 M0 D k := by
  cases dep with
  | nil => exact ⟨fun n hn => (by cases hn), q⟩
  | cons n ns =>
    by_cases c : Same (n :: ns) h0 h
    · refine ⟨c, ?_⟩
      have e : chkS (n :: ns) h0 h k = k := if_pos c
      rw [e] at q
      exact q
    · have e : chkS (n :: ns) h0 h k = .no := if_neg c
      rw [e] at q
      exact q.elim
theorem chkE_EK {W : WX} {w0 : Rw} {σ : L2.St} {Q : VK} {h0 h : Heap} {k : EO RV} (q : EK K mg W w0 σ Q (chkE dep h0 h k)) : Same dep h0 h ∧ EK K mg W w0 σ Q k := by
  cases dep with
  | nil => exact ⟨fun n hn => (by cases hn), q⟩
  | cons n ns =>
    by_cases c : Same (n :: ns) h0 h
    · refine ⟨c, ?_⟩
      have e : chkE (n :: ns) h0 h k = k := if_pos c
      rw [e] at q
      exact q
    · have e : chkE (n :: ns) h0 h k = .no := if_neg c
      rw [e] at q
      exact q.elim
end
section
variable {X : Cx} {W : WX} {w0 : Rw} {M0 : Addr → Prop} {pos pos' p tpos : Pos} {a b c e tg : Expr} {fa fb fc : E} {ga gb : T} {es : List Expr} {fs : A} {st : Stmt} {sts : List Stmt} {f : S} {g : Tg} {it : I} {kk : Nat}
abbrev PIs (X : Cx) (W : WX) (tg iter : Expr) (it : I) : Prop := PI X tg iter (tI X.K X.mg W it)
abbrev PIe (X : Cx) (W : WX) (tg iter : Expr) (it : I) : Prop := PI X tg iter (tIe X.K X.mg W it)
theorem PI.weak {i : Expr} {t t' : TI} (p : PI X tg i t) (c : ∀ σ H R, t' σ H R → t σ H R) : PI X tg i t' := ⟨fun pins s σ H R I q => p.run pins s σ H R I (c σ H R q)⟩
theorem i_e (h : PIs X W tg e it) : PIe X W tg e it := PI.weak h fun σ H R ⟨w, r, h, e, Rr, k⟩ => ⟨w, r, h, e, Rr, k.toE⟩
theorem i_seq (ha : PEs X W a fa) : PIs X W tg a (iSeq fa) := PI.weak (pi_any ha) fun σ H R ⟨w, r, h, e, Rr, k⟩ => by
  subst e
  refine ⟨w, r, h, rfl, Rr, EK.cutI (fun x h1 w1 v1 l1 R1 q1 k1 => ?_) k⟩
  split at k1
  · rename_i t xs dep hs
    obtain ⟨a, ea, st⟩ := seqSt_e R1 (owns_P (Rr.le l1 R1)) (owns_some Rr) q1 hs
    obtain ⟨ys, s, _⟩ := st w1 h1 LeS.refl R1 fun _ _ => rfl
    exact ⟨a, t, ea, ⟨ys, s⟩, k1 w1 _ l1 R1 (wk_seq st)⟩
  · exact k1.elim
theorem i_seqE (ha : PEs X W a fa) : PIe X W tg a (iSeqE fa) := PI.weak (pi_any ha) fun σ H R ⟨w, r, h, e, Rr, k⟩ => by
  subst e
  refine ⟨w, r, h, rfl, Rr, EK.cutI (fun x h1 w1 v1 l1 R1 q1 k1 => ?_) k⟩
  split at k1
  · rename_i t xs dep hs
    obtain ⟨a, ea, st⟩ := seqSt_E R1 q1 hs
    obtain ⟨ys, s, _⟩ := st w1 h1 LeS.refl R1 fun _ _ => rfl
    exact ⟨a, t, ea, ⟨ys, s⟩, k1 w1 _ l1 R1 (wk_seq st)⟩
  · exact k1.elim
theorem i_view (i : Nat) {x : Str} (hN : X.N[i]? = some x := by rfl) (hv : Vis X.env.scope x := by first | exact Or.inl rfl | exact Or.inr (Or.inl rfl) | exact Or.inr (Or.inr rfl)) (hd : (x == ("__debug__" : Str)) = false := by decide)
    (hcd : (x == ("__classdict__" : Str)) = false := by decide) : PIs X W tg (.Name x pos) (iView i) := PI.weak (pi_any (pe_var hN hv hd hcd)) fun σ H R ⟨w, r, h, e, Rr, k⟩ => by
  subst e
  unfold iView at k
  split at k
  · rename_i xs hx
    obtain ⟨v, e1, a, ys, e2, ⟨s1, s2⟩, q⟩ := Rr.sl i _ hx
    have st : SeqSt X.K X.mg (owns r σ) w h [] false a xs := fun w2 h2 l R2 _ => ⟨ys, .of (l.keep a _ s1.1 s1.2 s2), q.leS Rr.hp (owns_P Rr) l⟩
    exact ⟨v, e1, a, false, e2, ⟨ys, s1.sql⟩, k w _ (Le.refl w) Rr.hp (wk_seq st)⟩
  · rename_i x hx
    split at k
    · rename_i t xs dep hs
      obtain ⟨v, e1, q⟩ := Rr.sl i _ hx
      obtain ⟨a, ea, st⟩ := seqSt_e (w0 := w) (x := .v x) Rr.hp (owns_P Rr) (owns_some Rr) q hs
      obtain ⟨ys, s, _⟩ := st w h LeS.refl Rr.hp fun _ _ => rfl
      exact ⟨v, e1, a, t, ea, ⟨ys, s⟩, k w _ (Le.refl w) Rr.hp (wk_seq st)⟩
    · exact k.elim
  · exact k.elim
theorem i_zip (hg : Gl X "zip") (hm : X.mg "zip" = none) (ha : PEs X W a fa) (hb : PEs X W b fb) (hs : PySem.starEach [a, b] X.env = (false, PySem.eval a X.env) :: PySem.starEach [b] X.env := by rfl) (hs2 : PySem.starEach [b] X.env = (false, PySem.eval b X.env) :: PySem.starEach [] X.env := by rfl)
    (hpl : (PySem.backTo pos (PySem.starEach [b] X.env)).any (·.1) = false := by rfl) : PIs X W (.Tuple es kk tpos) (.Call (.Name "zip" p) [a, b] [] pos) (iZip seqV fa fb) :=
  PI.weak (SMZ.pi_z hg hm (pa_cons ha (pa_cons hb pa_nil hs2) hs) hs hpl) fun σ H R ⟨w, r, h, e, Rr, k⟩ => by
    subst e
    refine ⟨w, r, h, rfl, Rr, EK.cutI (fun x h1 w1 v1 l1 R1 q1 k1 => ?_) k⟩
    refine ⟨w1, r, h1, rfl, Rr.le l1 R1, EK.cutI (fun y h2 w2 v2 l2 R2 q2 k2 => ?_) (IK.le l1 k1)⟩
    split at k2
    · rename_i t xs d1 u ys d2 hx hy
      have R2' := (Rr.le l1 R1).le l2 R2
      obtain ⟨a, ea, sa⟩ := seqSt_e R2 (owns_P R2') (owns_some Rr) (q1.le R1 l2) hx
      obtain ⟨b, eb, sb⟩ := seqSt_e R2 (owns_P R2') (owns_some (Rr.le l1 R1)) q2 hy
      obtain ⟨vs, s1, _⟩ := sa w2 h2 LeS.refl R2 fun _ _ => rfl
      obtain ⟨us, s2, _⟩ := sb w2 h2 LeS.refl R2 fun _ _ => rfl
      subst ea eb
      exact ⟨a, b, vs, us, t, u, rfl, s1, s2, k2 w2 _ l2 R2 (wk_zip sa sb)⟩
    · exact k2.elim
theorem i_zipE (hg : Gl X "zip") (hm : X.mg "zip" = none) (ha : PEs X W a fa) (hb : PEs X W b fb) (hs : PySem.starEach [a, b] X.env = (false, PySem.eval a X.env) :: PySem.starEach [b] X.env := by rfl) (hs2 : PySem.starEach [b] X.env = (false, PySem.eval b X.env) :: PySem.starEach [] X.env := by rfl)
    (hpl : (PySem.backTo pos (PySem.starEach [b] X.env)).any (·.1) = false := by rfl) : PIe X W (.Tuple es kk tpos) (.Call (.Name "zip" p) [a, b] [] pos) (iZip seqE fa fb) :=
  PI.weak (SMZ.pi_z hg hm (pa_cons ha (pa_cons hb pa_nil hs2) hs) hs hpl) fun σ H R ⟨w, r, h, e, Rr, k⟩ => by
    subst e
    refine ⟨w, r, h, rfl, Rr, EK.cutI (fun x h1 w1 v1 l1 R1 q1 k1 => ?_) k⟩
    refine ⟨w1, r, h1, rfl, Rr.le l1 R1, EK.cutI (fun y h2 w2 v2 l2 R2 q2 k2 => ?_) (IK.le l1 k1)⟩
    split at k2
    · rename_i t xs d1 u ys d2 hx hy
      obtain ⟨a, ea, sa⟩ := seqSt_E R2 (q1.le R1 l2) hx
      obtain ⟨b, eb, sb⟩ := seqSt_E R2 q2 hy
      obtain ⟨vs, s1, _⟩ := sa w2 h2 LeS.refl R2 fun _ _ => rfl
      obtain ⟨us, s2, _⟩ := sb w2 h2 LeS.refl R2 fun _ _ => rfl
      subst ea eb
      exact ⟨a, b, vs, us, t, u, rfl, s1, s2, k2 w2 _ l2 R2 (wk_zip sa sb)⟩
    · exact k2.elim
theorem i_rng1 (hg : Gl X "range") (hm : X.mg "range" = none) (ha : PEs X W a fa) (hs : PySem.starEach [a] X.env = (false, PySem.eval a X.env) :: PySem.starEach [] X.env := by rfl) : PIs X W tg (.Call (.Name "range" p) [a] [] pos) (iRng1 fa) :=
  PI.weak (pi_range1 hg hm (pa_cons ha pa_nil hs) hs) fun σ H R ⟨w, r, h, e, Rr, k⟩ => by
    subst e
    refine ⟨w, r, h, rfl, Rr, EK.cutI (fun x h1 w1 v1 l1 R1 q1 k1 => ?_) k⟩
    split at k1
    · rename_i j
      have e1 : v1 = .int j := q1
      subst e1
      split at k1
      · rename_i c
        exact ⟨j, rfl, c.1, c.2, k1 w1 _ l1 R1 wk_range⟩
      · exact k1.elim
    · exact k1.elim
theorem i_rng2 (hg : Gl X "range") (hm : X.mg "range" = none) (ha : PEs X W a fa) (hb : PEs X W b fb) (hs : PySem.starEach [a, b] X.env = (false, PySem.eval a X.env) :: PySem.starEach [b] X.env := by rfl) (hs2 : PySem.starEach [b] X.env = (false, PySem.eval b X.env) :: PySem.starEach [] X.env := by rfl) : PIs X W tg (.Call (.Name "range" p) [a, b] [] pos) (iRng2 fa fb) :=
  PI.weak (pi_range2 hg hm (pa_cons ha (pa_cons hb pa_nil hs2) hs) (by rw [hs, hs2]; rfl) (by rw [hs2]; rfl)) fun σ H R ⟨w, r, h, e, Rr, k⟩ => by
    subst e
    refine ⟨w, r, h, rfl, Rr, EK.cutI (fun x h1 w1 v1 l1 R1 q1 k1 => ?_) k⟩
    refine ⟨w1, r, h1, rfl, Rr.le l1 R1, EK.cutI (fun y h2 w2 v2 l2 R2 q2 k2 => ?_) (IK.le l1 k1)⟩
    split at k2
    · rename_i i j
      have e1 : v1 = .int i := q1
      have e2 : v2 = .int j := q2
      subst e1 e2
      split at k2
      · rename_i c
        exact ⟨i, j, rfl, c, k2 w2 _ l2 R2 wk_range⟩
      · exact k2.elim
    · exact k2.elim
theorem b_for (hp : PySem.PassesOwn (PySem.model X.prog X.w) X.A X.env X.xe) (hc : X.calm = true) (hi : PIs X W tg e it) (hg : PGt X tg g) (hb : ∀ w1 M1, PBs X W w1 M1 sts f)
    (hs : ∀ x, PySem.foldedSetIterable e X.env x = pure x := by intro _; rfl) : PSs' X W w0 M0 (.For tg e sts [] pos) (sFor g it f) := by
  refine ⟨fun pins s σ H D Iv ⟨w, r, h, eH, R, k⟩ => ?_⟩
  subst eH
  -- the anchor of the turns is chosen behind the iterable
  have body : PSs X sts (fun D σ H => ∃ w1 M1, tS X.K X.mg W w1 M1 f D σ H) := ⟨fun pins s σ H D I ⟨w1, M1, q⟩ => (hb w1 M1).run pins s σ H D I q⟩
  refine (ps_for hp hc hi hg body hs).run pins s σ w.H D Iv ?_
  refine ⟨w, r, h, rfl, R.rel, ?_⟩
  have k : SK X.K X.mg W w0 M0 D ((it r h).then r fun p h1 => forL g f p.2 h1 p.1 r h1) := k
  cases hit : it r h with
  | no =>
    rw [hit] at k
    exact k.elim
  | ex e h1 =>
    rw [hit] at k
    exact fun w' cls d l R' q => k w' σ cls d (R.le' l R') q
  | ok p h1 =>
    rw [hit] at k
    obtain ⟨xs, dep⟩ := p
    have k : SK X.K X.mg W w0 M0 D (forL g f dep h1 xs r h1) := k
    intro w' J l R' wk
    have wk : Wk X.K X.mg (owns r σ) w' h1 J xs dep := wk
    refine ⟨fun i m σ2 H2 => m = xs.length - i ∧ i ≤ xs.length ∧ ∃ w2 r2 h2, w2.H = H2 ∧ RelS X.K X.mg w0 M0 w2 r2 h2 σ2 ∧ LeS (owns r σ) w' w2 ∧ (∀ b, owns r2 σ2 b → owns r σ b ∨ w'.H b = none) ∧ SK X.K X.mg W w0 M0 D (forL g f dep h1 (xs.drop i) r2 h2),
      ⟨xs.length, by simp, Nat.zero_le _, w', r, h1, rfl, R.le' l R', LeS.refl, fun b o => .inl o, k⟩, ?_⟩
    rintro i m σ2 H2 ⟨em, hi, w2, r2, h2, rfl, R2, l2, f2, k2⟩
    by_cases hlt : i < xs.length
    · have hd0 : xs.drop i = xs[i] :: xs.drop (i + 1) := List.drop_eq_getElem_cons hlt
      rw [hd0] at k2
      obtain ⟨sm, k2⟩ := chkS_SK k2
      obtain ⟨go, stop, yld⟩ := wk w2 h2 l2 R2.rel.hp sm
      refine .inr ⟨go i hlt, fun σ3 H3 => ∃ w3 r3 h3, w3.H = H3 ∧ RelS X.K X.mg w0 M0 w3 r3 h3 σ3 ∧ LeS (owns r σ) w' w3 ∧ (∀ b, owns r3 σ3 b → owns r σ b ∨ w'.H b = none) ∧ SK X.K X.mg W w0 M0 D (forL g f dep h1 (xs.drop (i + 1)) r3 h3),
        fun σ' H' z => ⟨xs.length - (i + 1), by omega, rfl, hlt, z⟩, fun x H' y => ?_⟩
      obtain ⟨w3, v, rfl, l3, R3, hv, qv⟩ := yld i x H' hlt y
      have ev : xs[i] = v := by
        rw [List.getElem?_eq_getElem hlt] at hv
        exact Option.some.inj hv
      rw [ev] at k2
      cases hp : g.put v r2 with
      | none =>
        rw [hp] at k2
        exact k2.elim
      | some r1 =>
        rw [hp] at k2
        have k2 : SK X.K X.mg W w0 M0 D ((f r1 h2).turn (forL g f dep h1 (xs.drop (i + 1)))) := k2
        -- two anchors at once: the outer one, and the loop's start
        have RA : RelS X.K X.mg w' (owns r σ) w3 r2 h2 σ2 := ⟨R2.rel.le l3 R3, l2.le l3, f2⟩
        refine ⟨w', owns r σ, w3, r2, h2, v, r1, rfl, RA, qv, hp, fun σ1 RA1 _ => ?_⟩
        refine ⟨w', owns r σ, w3, r1, h2, rfl, RA1, ?_⟩
        have hM : ∀ b, owns r σ b → M0 b ∨ w0.H b = none := R.fr
        have up : ∀ {w4 : Rw} {r4 : Env} {h4 : Heap} {σ4 : L2.St}, RelS X.K X.mg w' (owns r σ) w4 r4 h4 σ4 → RelS X.K X.mg w0 M0 w4 r4 h4 σ4 := fun {w4 r4 h4 σ4} R4 =>
          ⟨R4.rel, (R.le.le l).trans R4.le hM, fun b o => (R4.fr b o).elim (fun z => hM b z) fun z => .inr ((R.le.le l).fresh z)⟩
        cases hf : f r1 h2 with
        | nx r4 h4 =>
          rw [hf] at k2
          exact fun w4 σ4 R4 => ⟨w4, r4, h4, rfl, up R4, R4.le, R4.fr, k2⟩
        | ct r4 h4 =>
          rw [hf] at k2
          exact fun w4 σ4 R4 => ⟨w4, r4, h4, rfl, up R4, R4.le, R4.fr, k2⟩
        | bk r4 h4 =>
          rw [hf] at k2
          exact fun w4 σ4 R4 => k2 w4 σ4 (up R4)
        | rt x h4 =>
          rw [hf] at k2
          exact fun w4 v4 l4 R4 q4 => k2 w4 v4 ((R.le.le l).trans l4 hM) R4 (q4.backS (R.le.le l))
        | ex e r4 h4 =>
          rw [hf] at k2
          exact fun w4 σ4 cls d R4 q4 => k2 w4 σ4 cls d (up R4) q4
        | no =>
          rw [hf] at k2
          exact k2
    · have e : i = xs.length := by omega
      subst e
      rw [List.drop_length] at k2
      obtain ⟨sm, k2⟩ := chkS_SK k2
      obtain ⟨go, stop, yld⟩ := wk w2 h2 l2 R2.rel.hp sm
      exact .inl ⟨stop, k2 w2 σ2 R2⟩
end
end SM

/-! SMFn: comprehensions, defs, calls. -/
namespace SM
open PySem (Str Expr Stmt Pos Operator CmpOp Scope)
open L2 hiding St tB tAnd tOr tNot iRng1 iRng2
abbrev W0 : WX := fun _ _ _ _ => False
section
variable {X : Cx} {W : WX} {pos : Pos} {elt tg iter : Expr} {ifs : List Expr} {scope : Scope} {own : List (Str × Nat)} {g : Tg} {it : I} {c : T} {fe : E}
theorem lc_cut {K : Frag} {mg : Mg} (hsl : ∀ i, i ∈ g.slots → i ∈ own.map (·.2)) : ∀ σ H Q, tE K mg W (eLc (own.map (·.2)) g it c fe) σ H Q → tLc (tIe K mg W it) (tG K mg g) (tT K mg W0 c) (tE K mg W0 fe) (own.map (·.2)) σ H Q := fun σ H Q ⟨w, r, h, eH, R, k⟩ => by
  subst eH
  generalize own.map (·.2) = vs at *
  refine ⟨w, r, h, rfl, R, ?_⟩
  have k : EK K mg W w σ Q ((it r h).bind fun p h1 => if p.1.length ≤ line then lcGo g c fe (wipeE r vs) p.2 h1 p.1 [] h1 else .no) := k
  cases hit : it r h with
  | no =>
    rw [hit] at k
    exact k.elim
  | ex e h1 =>
    rw [hit] at k
    exact k
  | ok p h1 =>
    rw [hit] at k
    obtain ⟨xs, dep⟩ := p
    have k : EK K mg W w σ Q (if xs.length ≤ line then lcGo g c fe (wipeE r vs) dep h1 xs [] h1 else .no) := k
    split at k
    · rename_i hz
      intro w' J l R' wk D hD
      have wk : Wk K mg (fun _ => False) w' h1 J xs dep := wk
      have hDw : w.H D = none := l.fresh hD
      refine ⟨fun i m H2 => m = xs.length - i ∧ i ≤ xs.length ∧ ∃ w2 h2 acc ys, w2.H = H2 ∧ Le w' w2 ∧ RHp K mg w2 h2 ∧ w2.H D = some (.lst ys) ∧ RVals K w2 acc ys ∧ w2.P D ∧ w2.out D ∧ acc.length ≤ i ∧ EK K mg W w σ Q (lcGo g c fe (wipeE r vs) dep h1 (xs.drop i) acc h2),
        ⟨xs.length, by simp, Nat.zero_le _, w'.newL D [], h1, [], [], rfl, Le.newL hD R', R'.newL hD, upd_same, rfl, .inl rfl, R'.outN hD, Nat.zero_le _, k⟩, ?_⟩
      rintro i m H2 ⟨em, hi, w2, h2, acc, ys, rfl, l2, R2, eD, qa, pD, uD, hacc, k2⟩
      by_cases hlt : i < xs.length
      · have hd0 : xs.drop i = xs[i] :: xs.drop (i + 1) := List.drop_eq_getElem_cons hlt
        rw [hd0] at k2
        obtain ⟨sm, k2⟩ := chkE_EK k2
        obtain ⟨go, stop, yld⟩ := wk w2 h2 l2.s R2 sm
        refine .inr ⟨go i hlt, fun H3 => ∃ w3 h3 acc3 ys3, w3.H = H3 ∧ Le w' w3 ∧ RHp K mg w3 h3 ∧ w3.H D = some (.lst ys3) ∧ RVals K w3 acc3 ys3 ∧ w3.P D ∧ w3.out D ∧ acc3.length ≤ i + 1 ∧ EK K mg W w σ Q (lcGo g c fe (wipeE r vs) dep h1 (xs.drop (i + 1)) acc3 h3),
          fun H' z => ⟨xs.length - (i + 1), by omega, rfl, hlt, z⟩, fun x H' y => ?_⟩
        obtain ⟨w3, v, rfl, l3, R3, hv, qv⟩ := yld i x H' hlt y
        have ev : xs[i] = v := by
          rw [List.getElem?_eq_getElem hlt] at hv
          exact Option.some.inj hv
        rw [ev] at k2
        cases hp : g.put v (wipeE r vs) with
        | none =>
          rw [hp] at k2
          exact k2.elim
        | some r1 =>
          rw [hp] at k2
          have RW : Rel K mg w3 (wipeE r vs) h2 (wipe σ vs) := ((R.le l R').le (l2.trans l3) R3).wipe vs
          refine ⟨w3, _, w3, wipeE r vs, h2, v, r1, rfl, RW.self, qv, hp, fun σ1 RA1 hw => ⟨(hw vs hsl).trans (wipe_wipe σ vs), ?_⟩⟩
          refine ⟨w3, r1, h2, rfl, RA1.rel, ?_⟩
          have e3 : w3.H D = some (.lst ys) := l3.keep D _ eD uD
          have u3 : w3.out D := l3.out eD uD
          have p3 : w3.P D := (l3.P D _ eD).mpr pD
          have k2 : EK K mg W w σ Q (match c r1 h2 with
            | .ok true h8 => match fe r1 h8 with
              | .ok y h9 => match y.keep with
                | some z => lcGo g c fe (wipeE r vs) dep h1 (xs.drop (i + 1)) (acc ++ [z]) h9
                | none => .no
              | _ => .no
            | .ok false h8 => lcGo g c fe (wipeE r vs) dep h1 (xs.drop (i + 1)) acc h8
            | _ => .no) := k2
          cases hc : c r1 h2 with
          | no =>
            rw [hc] at k2
            exact k2.elim
          | ex e h4 =>
            rw [hc] at k2
            exact k2.elim
          | ok b h4 =>
            rw [hc] at k2
            intro w4 l4 R4
            have e4 : w4.H D = some (.lst ys) := l4.keep D _ e3 u3
            have u4 : w4.out D := l4.out e3 u3
            have p4 : w4.P D := (l4.P D _ e3).mpr p3
            have l24 := l3.trans l4
            cases b with
            | false =>
              rw [if_neg Bool.false_ne_true]
              exact ⟨w4, h4, acc, ys, rfl, l2.trans l24, R4, e4, qa.le R2 l24, p4, u4, Nat.le_succ_of_le hacc, k2⟩
            | true =>
              rw [if_pos rfl]
              refine ⟨w4, r1, h4, rfl, RA1.rel.le l4 R4, ?_⟩
              have k2 : EK K mg W w σ Q (match fe r1 h4 with
                | .ok y h2 => match y.keep with
                  | some z => lcGo g c fe (wipeE r vs) dep h1 (xs.drop (i + 1)) (acc ++ [z]) h2
                  | none => .no
                | _ => .no) := k2
              cases hf : fe r1 h4 with
              | no =>
                rw [hf] at k2
                exact k2.elim
              | ex e h5 =>
                rw [hf] at k2
                exact k2.elim
              | ok y h5 =>
                rw [hf] at k2
                intro w5 v5 l5 R5 q5
                have k2 : EK K mg W w σ Q (match y.keep with
                  | some z => lcGo g c fe (wipeE r vs) dep h1 (xs.drop (i + 1)) (acc ++ [z]) h5
                  | none => .no) := k2
                cases hk : y.keep with
                | none =>
                  rw [hk] at k2
                  exact k2.elim
                | some z =>
                  rw [hk] at k2
                  have e5 : w5.H D = some (.lst ys) := l5.keep D _ e4 u4
                  have u5 : w5.out D := l5.out e4 u4
                  have p5 : w5.P D := (l5.P D _ e4).mpr p4
                  obtain ⟨w6, eH6, l6, R6, q6⟩ := q5.keep R5 l5 hk
                  have e6 : w6.H D = some (.lst ys) := l6.keep D _ e4 u4
                  have u6 : w6.out D := l6.out e4 u4
                  have p6 : w6.P D := (l6.P D _ e4).mpr p4
                  have l26 := l24.trans l6
                  have qa6 := qa.le R2 l26
                  refine ⟨ys, e5, by rw [← qa.length]; exact Nat.lt_of_le_of_lt hacc (Nat.lt_of_lt_of_le hlt hz), ?_⟩
                  refine ⟨w6.updO D (ys ++ [v5]), h5, acc ++ [z], ys ++ [v5], ?_, ?_, R6.updO p6 u6, upd_same, ?_, p6, u6, ?_, k2⟩
                  · show upd w6.H D _ = upd w5.H D _
                    rw [eH6]
                  · have l' := l2.trans l26
                    exact ⟨l'.n, l'.io, fun b o e u => (upd_ne (ne_of_none e hD)).trans (l'.keep b o e u), fun b o e => by
                      obtain ⟨o', e'⟩ := l'.there b o e
                      exact ⟨o', (upd_ne (ne_of_none e hD)).trans e'⟩, l'.P, l'.new⟩
                  · exact (qa6.append (RVals.one q6)).updO p6
                  · rw [List.length_append, List.length_singleton]
                    omega
      · have e : i = xs.length := by omega
        subst e
        rw [List.drop_length] at k2
        obtain ⟨sm, k2⟩ := chkE_EK k2
        obtain ⟨go, stop, yld⟩ := wk w2 h2 l2.s R2 sm
        refine .inl ⟨stop, ?_⟩
        exact k2 w2 (.ref D) (l.trans l2) R2 ⟨D, ys, rfl, hDw, eD, qa, pD, uD⟩
    · exact k.elim
theorem s_lc (hc : X.calm = true) (hN : X.N.Nodup) (ok : BlkOk X.N X.env.scope scope own) (hi : PIe X W tg iter it) (hsl : ∀ i, i ∈ g.slots → i ∈ own.map (·.2))
    (hg : ∀ (s : PySem.Shared) (H : Hp) (C : Addr) (cl : List (Str × Addr)) (fp : List Addr), PGt (X.blk s H scope (PySem.compEnvC scope cl C X.env) fp) tg g)
    (ht : ∀ (s : PySem.Shared) (H : Hp) (C : Addr) (cl : List (Str × Addr)) (fp : List Addr), PTs (X.blk s H scope (PySem.compEnvC scope cl C X.env) fp) ifs (tT X.K X.mg W0 c))
    (he : ∀ (s : PySem.Shared) (H : Hp) (C : Addr) (cl : List (Str × Addr)) (fp : List Addr), PEs (X.blk s H scope (PySem.compEnvC scope cl C X.env) fp) W0 elt fe)
    (hs : ∀ x, PySem.foldedSetIterable iter X.env x = pure x := by intro _; rfl) : PEs X W (.ListComp elt [⟨tg, iter, ifs, 0⟩] scope pos) (eLc (own.map (·.2)) g it c fe) :=
  PE.weak (pe_lc hc hN hi ok hg ht he hs) (lc_cut hsl)
theorem g_lc {i : Nat} {y : Str} {py spos : Pos} (hc : X.calm = true) (hN : X.N.Nodup) (ok : BlkOk X.N X.env.scope scope own) (hi : PIe X W tg iter it) (hsl : ∀ i, i ∈ g.slots → i ∈ own.map (·.2))
    (hg : ∀ (s : PySem.Shared) (H : Hp) (C : Addr) (cl : List (Str × Addr)) (fp : List Addr), PGt (X.blk s H scope (PySem.compEnvC scope cl C X.env) fp) tg g)
    (ht : ∀ (s : PySem.Shared) (H : Hp) (C : Addr) (cl : List (Str × Addr)) (fp : List Addr), PTs (X.blk s H scope (PySem.compEnvC scope cl C X.env) fp) ifs (tT X.K X.mg W0 c))
    (he : ∀ (s : PySem.Shared) (H : Hp) (C : Addr) (cl : List (Str × Addr)) (fp : List Addr), PEs (X.blk s H scope (PySem.compEnvC scope cl C X.env) fp) W0 elt fe)
    (hsw : PySem.swapsWith (.ListComp elt [⟨tg, iter, ifs, 0⟩] scope pos) (some (.Name y py)) spos.line X.env = pure true) (hy : X.N[i]? = some y := by rfl) (hyl : X.env.scope.names.lookup y = some .local := by rfl)
    (hs : ∀ x, PySem.foldedSetIterable iter X.env x = pure x := by intro _; rfl) : PAsg X W (.Assign [.Name y py] (.ListComp elt [⟨tg, iter, ifs, 0⟩] scope pos) spos) i (eLc (own.map (·.2)) g it c fe) :=
  PS.weak (ps_setLc hc hN hy hyl hsw hi ok hg ht he hs) fun D σ H k => lc_cut hsl σ H _ k
theorem t_yes : PTs X [] (tT X.K X.mg W0 tYes) := ⟨fun pins s σ H Q I ⟨w, r, h, e, R, k⟩ => by
  subst e
  exact pts_nil.run pins s σ w.H Q I (k w (Le.refl w) R.hp)⟩
theorem t_one {cc : Expr} (h : PTs' X W0 cc c) : PTs X [cc] (tT X.K X.mg W0 c) := pts_one h
end

/-! ### the end of a call: what is new and no more led to is forgotten -/
section
variable {K : Frag} {mg : Mg} {w w0 w1 w2 : Rw} {h h' : Heap} {a : Addr}
mutual
theorem RVal.under : ∀ {x : Val} {v : V}, RVal K w x v → x.under w.n
  | .none, _, _ => trivial
  | .bool _, _, _ => trivial
  | .int _, _, _ => trivial
  | .str _, _, _ => trivial
  | .tup _, _, ⟨_, _, _, _, q⟩ => RVals.under q
  | .ro _, _, ⟨_, _, _, _, q⟩ => RVals.under q
  | .scr _, _, ⟨_, _, _, _, q⟩ => RVals.under q
  | .obj k, _, ⟨hk, _⟩ => hk
  | .err _ _ _, _, ⟨_, _, _, q⟩ => RVals.under q
theorem RVals.under : ∀ {xs : List Val} {vs : List V}, RVals K w xs vs → underAll w.n xs
  | [], _, _ => trivial
  | _ :: _, _, ⟨_, _, _, q1, q2⟩ => ⟨RVal.under q1, RVals.under q2⟩
end
theorem RFs.under : ∀ {fs : List (Str × Val)} {gs : List (Str × V)}, RFs K w fs gs → underF w.n fs
  | [], _, _ => trivial
  | (_, _) :: _, _, ⟨_, _, _, q1, q2⟩ => ⟨q1.under, RFs.under q2⟩
theorem RKs.under : ∀ {fs : List (L2.Key × Val)} {gs : List (L2.Key × V)}, RKs K w fs gs → underK w.n fs
  | [], _, _ => trivial
  | (_, _) :: _, _, ⟨_, _, _, q1, q2⟩ => ⟨q1.under, RKs.under q2⟩
theorem RObj.under {o : HObj} (q : RObj K mg w a o) : o.under w.n := by
  cases o with
  | lst vs => obtain ⟨xs, _, q⟩ := q; exact q.under
  | ins c fs => obtain ⟨C, dx, gs, _, _, q⟩ := q; exact q.under
  | dct kvs => obtain ⟨gs, _, q⟩ := q; exact q.under
def Rw.cut (w : Rw) (n : Nat) : Rw := { w with n := n }
mutual
theorem RVal.cut {n : Nat} : ∀ {x : Val} {v : V}, RVal K w x v → x.under n → RVal K (w.cut n) x v
  | .none, _, q, _ => q
  | .bool _, _, q, _ => q
  | .int _, _, q, _ => q
  | .str _, _, q, _ => q
  | .tup _, _, ⟨b, xs, e, s, q⟩, u => ⟨b, xs, e, s, RVals.cut q u⟩
  | .ro _, _, ⟨b, xs, e, s, q⟩, u => ⟨b, xs, e, s, RVals.cut q u⟩
  | .scr _, _, ⟨b, xs, e, s, q⟩, u => ⟨b, xs, e, s, RVals.cut q u⟩
  | .obj k, _, ⟨hk, e⟩, u => ⟨u, e⟩
  | .err _ _ _, _, ⟨e, ys, s, q⟩, u => ⟨e, ys, s, RVals.cut q u⟩
theorem RVals.cut {n : Nat} : ∀ {xs : List Val} {vs : List V}, RVals K w xs vs → underAll n xs → RVals K (w.cut n) xs vs
  | [], _, q, _ => q
  | _ :: _, _, ⟨y, ys, e, q1, q2⟩, u => ⟨y, ys, e, RVal.cut q1 u.1, RVals.cut q2 u.2⟩
end
theorem RFs.cut {n : Nat} : ∀ {fs : List (Str × Val)} {gs : List (Str × V)}, RFs K w fs gs → underF n fs → RFs K (w.cut n) fs gs
  | [], _, q, _ => q
  | (_, _) :: _, _, ⟨y, g, e, q1, q2⟩, u => ⟨y, g, e, q1.cut u.1, RFs.cut q2 u.2⟩
theorem RKs.cut {n : Nat} : ∀ {fs : List (L2.Key × Val)} {gs : List (L2.Key × V)}, RKs K w fs gs → underK n fs → RKs K (w.cut n) fs gs
  | [], _, q, _ => q
  | (_, _) :: _, _, ⟨y, g, e, q1, q2⟩, u => ⟨y, g, e, q1.cut u.1, RKs.cut q2 u.2⟩
theorem RObj.cut {n : Nat} {o : HObj} (q : RObj K mg w a o) (u : o.under n) : RObj K mg (w.cut n) a o := by
  cases o with
  | lst vs => obtain ⟨xs, e, q⟩ := q; exact ⟨xs, e, q.cut u⟩
  | ins c fs => obtain ⟨C, dx, gs, e, c, q⟩ := q; exact ⟨C, dx, gs, e, c, q.cut u⟩
  | dct kvs => obtain ⟨gs, e, q⟩ := q; exact ⟨gs, e, q.cut u⟩
theorem out_cut {n : Nat} (hn : n ≤ w.n) (u : w.out a) : (w.cut n).out a := fun k hk => u k (Nat.lt_of_lt_of_le hk hn)
theorem RHp.cut (R : RHp K mg w h) (l : Le w w1) (R1 : RHp K mg w1 h') (s : Shr h h') : RHp K mg (w1.cut w.n) (h'.take h.length) where
  len := by
    rw [List.length_take, Nat.min_eq_left s.1]
    exact R.len
  obj := fun k o e => by
    have hk : k < h.length := by
      have := (List.getElem?_eq_some_iff.mp e).1
      rw [List.length_take] at this
      omega
    rw [List.getElem?_take_of_lt hk] at e
    have q := R1.obj k o e
    refine q.cut ?_
    rcases s.2 k o hk e with z | z
    · exact (R.obj k o z).under
    · rw [← R.len]
      exact z
  inj := fun j k hj hk e => R1.inj j k (Nat.lt_of_lt_of_le hj l.n) (Nat.lt_of_lt_of_le hk l.n) e
  inP := fun k hk => R1.inP k (Nat.lt_of_lt_of_le hk l.n)
  ph := R1.ph
theorem Le.cut (l : Le w w1) : Le w (w1.cut w.n) := ⟨Nat.le_refl _, l.io, l.keep, l.there, l.P, fun k h1 h2 => absurd h2 (Nat.not_lt.mpr h1)⟩
theorem RRes.cut (l : Le w w1) {x : RV} {v : V} (q : RRes K w w1 x v) (u : x.under w.n) : RRes K w (w1.cut w.n) x v := by
  cases x with
  | v x => exact RVal.cut q u
  | own xs =>
    obtain ⟨a, ys, e, e0, e1, q, p, o⟩ := q
    exact ⟨a, ys, e, e0, e1, q.cut u, p, out_cut l.n o⟩
  | view xs =>
    obtain ⟨a, ys, e, s, q⟩ := q
    exact ⟨a, ys, e, ⟨s.1, out_cut l.n s.2⟩, q.cut u⟩
theorem LeS.le0 (l : LeS (fun _ => False) w w1) : Le w w1 := ⟨l.n, l.io, fun b o e u => l.keep b o e u id, l.there, fun b o e => ⟨l.P b o e, l.P2 b o e id⟩, l.new⟩
theorem RArgs.len : ∀ {xs : List RV} {vs : List V}, RArgs K w xs vs → xs.length = vs.length
  | [], vs, q => by
    have e : vs = [] := q
    subst e
    rfl
  | x :: xs, vs, ⟨v, r, e, _, q⟩ => by
    subst e
    rw [List.length_cons, List.length_cons, RArgs.len q]
theorem RArgs.get : ∀ {xs : List RV} {vs : List V} {i : Nat} {x : RV}, RArgs K w xs vs → xs[i]? = some x → ∃ v, vs[i]? = some v ∧ RRes K w w x v
  | [], _, _, _, _, e => by simp at e
  | x :: xs, _, 0, _, ⟨y, ys, e, q1, q2⟩, e2 => by
    subst e
    have e2 : some x = some _ := e2
    cases e2
    exact ⟨y, rfl, q1⟩
  | x :: xs, _, i + 1, _, ⟨y, ys, e, q1, q2⟩, e2 => by
    subst e
    obtain ⟨v, h1, h2⟩ := RArgs.get (i := i) q2 (by simpa using e2)
    exact ⟨v, by simpa using h1, h2⟩
/-- a def's state at its entry -/
theorem Rel.entry {N : List Str} {rs : List RV} {vs : List V} (R : RHp K mg w h) (q : RArgs K w rs vs) (hN : vs.length ≤ N.length) : RelS K mg w (fun _ => False) w (rs.map some ++ List.replicate (N.length - rs.length) none) h (start N vs) := by
  have hl := q.len
  have notown : ∀ {i : Nat} {xs : List Val}, (rs.map some ++ List.replicate (N.length - rs.length) none)[i]? ≠ some (some (.own xs)) := by
    intro i xs e
    by_cases hi : i < rs.length
    · rw [List.getElem?_append_left (by rw [List.length_map]; exact hi), List.getElem?_map, List.getElem?_eq_getElem hi] at e
      have e : rs[i] = .own xs := Option.some.inj (Option.some.inj e)
      obtain ⟨v, _, s⟩ := q.get (List.getElem?_eq_getElem hi)
      rw [e] at s
      obtain ⟨a, ys, _, e0, e1, _⟩ := s
      rw [e0] at e1
      cases e1
    · rw [List.getElem?_append_right (by rw [List.length_map]; omega), List.getElem?_replicate] at e
      split at e
      · cases e
      · cases e
  refine ⟨⟨R, ?_, fun i x e => ?_, fun i j xs ys a e1 _ _ _ => absurd e1 notown⟩, LeS.refl, fun a ⟨i, xs, e1, _⟩ => absurd e1 notown⟩
  · unfold start
    rw [List.length_append, List.length_append, List.length_map, List.length_map, List.length_replicate, List.length_replicate, hl]
  · by_cases hi : i < rs.length
    · rw [List.getElem?_append_left (by rw [List.length_map]; exact hi), List.getElem?_map, List.getElem?_eq_getElem hi] at e
      have e : rs[i] = x := Option.some.inj (Option.some.inj e)
      obtain ⟨v, hv, s⟩ := q.get (List.getElem?_eq_getElem hi)
      rw [e] at s
      refine ⟨v, ?_, ?_⟩
      · unfold start
        rw [List.getElem?_append_left (by rw [List.length_map, ← hl]; exact hi), List.getElem?_map, hv]
        rfl
      · cases x with
        | v x => exact s
        | own xs =>
          obtain ⟨a, ys, _, e0, e1, _⟩ := s
          rw [e0] at e1
          cases e1
        | view xs =>
          obtain ⟨a, ys, e1, s1, s2⟩ := s
          exact ⟨a, ys, e1, ⟨s1, fun ⟨j, zs, f1, _⟩ => notown f1⟩, s2⟩
    · rw [List.getElem?_append_right (by rw [List.length_map]; omega), List.getElem?_replicate] at e
      split at e
      · cases e
      · cases e
theorem RExn.cut (l : Le w w1) {e : Exn} {cls : PySem.Value} {d : Option Addr} (q : RExn K mg w1 e cls d) (u : underAll w.n e.args) : RExn K mg (w1.cut w.n) e cls d := by
  obtain ⟨C, e1, e2, q⟩ := q
  refine ⟨C, e1, e2, ?_⟩
  cases ha : e.args with
  | nil =>
    rw [ha] at q
    exact q
  | cons x xs =>
    rw [ha] at q u
    obtain ⟨dx, v, e3, e4, e5, q⟩ := q
    exact ⟨dx, v, e3, e4, e5, q.cut u.1⟩
theorem fin_ok {Q : VK} {Ex : XK} (R : RHp K mg w h) : ∀ {o : SO}, FK K mg w Q Ex (fin h o) → SK K mg (fun cls d _ H => Ex cls d H) w (fun _ => False) { nx := fun _ H' => Q .non H', rt := Q } o
  | .nx r h', k => fun w1 σ1 R1 => by
    have l := R1.le.le0
    have k : ∀ w' v, Le w w' → RHp K mg w' _ → RRes K w w' (.v .none) v → Q v w'.H := k
    by_cases s : Shr h h'
    · rw [if_pos s] at k
      exact k (w1.cut w.n) .non l.cut (R.cut l R1.rel.hp s) rfl
    · rw [if_neg s] at k
      exact k w1 .non l R1.rel.hp rfl
  | .rt x h', k => fun w1 v1 l1 R1 q1 => by
    have l := l1.le0
    have k : ∀ w' v, Le w w' → RHp K mg w' _ → RRes K w w' x v → Q v w'.H := k
    by_cases s : Shr h h' ∧ x.under h.length
    · rw [if_pos s] at k
      exact k (w1.cut w.n) v1 l.cut (R.cut l R1 s.1) (q1.cut l (by rw [← R.len]; exact s.2))
    · rw [if_neg s] at k
      exact k w1 v1 l R1 q1
  | .ex e r h', k => fun w1 σ1 cls d R1 q1 => by
    have l := R1.le.le0
    have k : ∀ w' cls d, Le w w' → RHp K mg w' _ → RExn K mg w' e cls d → Ex cls d w'.H := k
    by_cases s : Shr h h' ∧ underAll h.length e.args
    · rw [if_pos s] at k
      exact k (w1.cut w.n) cls d l.cut (R.cut l R1.rel.hp s.1) (q1.cut l (by rw [← R.len]; exact s.2))
    · rw [if_neg s] at k
      exact k w1 cls d l R1.rel.hp q1
  | .bk _ _, k => k.elim
  | .ct _ _, k => k.elim
  | .no, k => k.elim
end
/-- THE RULE for a def -/
theorem fn_ok {P : PySem.Program} {w : PySem.World} {K : Frag} {mg : Mg} {base : PySem.Heap} {x qual : Str} {st : Stmt} {f : Addr} {fd : PySem.FuncData} {N ps : List Str} {k : Nat} {body : S} (F : Fun K x qual st f fd) (S : FnScope N ps (defScope st))
    (hb : ∀ (X : Cx) (W : WX) (w0 : Rw), X.calm = true → Takes X W → PySem.PassesOwn (PySem.model X.prog X.w) X.A X.env X.xe → Room k X.A → X.prog = P → X.w = w → X.base = base → X.N = N → X.K = K → X.mg = mg → X.env.scope = defScope st → (∀ x, X.fn x = true) → X.stack = X.env :: X.outer → X.env.frame = some X.env.locals → X.ex = [] → PBs X W w0 (fun _ => False) (defBody st) body) (hN : ps.length ≤ N.length) :
    FnOk P w K mg base (L2.CX P w) (k + 1) f fd ps (spF K mg ps.length (mkFn N.length body)) := by
  refine F.okX S (fun vs H Q E h => ?_) (fun cdv A outer s H vs Q E hr h => ?_)
  · obtain ⟨_, _, _, _, _, _, e, _⟩ := h
    exact e
  · obtain ⟨w', h', rs, eH, R, q, e, k'⟩ := h
    subst eH
    refine ⟨_, hb (cxOf (L2.CX P w) P w K mg base N qual (defScope st) f cdv A outer s w'.H E) (fun cls d _ H => E cls d H) w' rfl (takes_of (E := E) rfl rfl rfl rfl) (passes_of rfl) hr rfl rfl rfl rfl rfl rfl rfl (fun _ => rfl) rfl rfl rfl, ?_⟩
    have RE := Rel.entry (N := N) R q (by rw [e]; exact hN)
    exact ⟨w', _, h', rfl, RE, fin_ok R k'⟩
end SM

/-! SMTop: defs of the text that keep what ours say, calls, the law's end. -/
namespace SM
open PySem (Str Expr Stmt Pos Operator CmpOp Scope)
open L2 hiding St tB tAnd tOr tNot iRng1 iRng2
/-- a def of the text under its global name -/
structure Df (K : Frag) (mg : Mg) (y x qual : Str) (st : Stmt) (ps : List Str) : Prop where
  ex : ∃ f fd, L2.Fun K x qual st f fd ∧ mg y = some (.ref f) ∧ PySem.W.keepIn K (.ref f) = true ∧ Binds K fd ps []
/-- it keeps what fn says -/
structure DefOk (P : PySem.Program) (w : PySem.World) (K : Frag) (mg : Mg) (base : PySem.Heap) (k : Nat) (y : Str) (n : Nat) (fn : Fn) : Prop where
  ex : ∃ f fd ps, mg y = some (.ref f) ∧ PySem.W.keepIn K (.ref f) = true ∧ Binds K fd ps [] ∧ FnOk P w K mg base (L2.CX P w) k f fd ps (spF K mg n fn)
abbrev cxD (P : PySem.Program) (w : PySem.World) (K : Frag) (mg : Mg) (base : PySem.Heap) (N : List Str) (qual : Str) (st : Stmt) (f : Addr) (cdv : PySem.Value) (A : PySem.Around) (outer : List PySem.Env) (s : PySem.Shared) (H : Hp) (Ex : XK) : Cx :=
  cxOf (L2.CX P w) P w K mg base N qual (defScope st) f cdv A outer s H Ex
section
variable {P : PySem.Program} {w : PySem.World} {K : Frag} {mg : Mg} {base : PySem.Heap} {x y qual : Str} {st : Stmt} {N ps : List Str} {k n : Nat} {body : S}
/-- the body of a def keeps what body says -/
def BodyOk (P : PySem.Program) (w : PySem.World) (K : Frag) (mg : Mg) (base : PySem.Heap) (N : List Str) (qual : Str) (st : Stmt) (k : Nat) (body : S) : Prop :=
  ∀ (f : Addr) (cdv : PySem.Value) (A : PySem.Around) (outer : List PySem.Env) (s : PySem.Shared) (w0 : Rw) (Ex : XK), Room k (cxD P w K mg base N qual st f cdv A outer s w0.H Ex).A →
    Takes (cxD P w K mg base N qual st f cdv A outer s w0.H Ex) (fun cls d _ H => Ex cls d H) → PySem.PassesOwn (PySem.model P w) (cxD P w K mg base N qual st f cdv A outer s w0.H Ex).A (cxD P w K mg base N qual st f cdv A outer s w0.H Ex).env (cxD P w K mg base N qual st f cdv A outer s w0.H Ex).xe →
    PBs (cxD P w K mg base N qual st f cdv A outer s w0.H Ex) (fun cls d _ H => Ex cls d H) w0 (fun _ => False) (defBody st) body
theorem fn_body {f : Addr} {fd : PySem.FuncData} (F : L2.Fun K x qual st f fd) (S : FnScope N ps (defScope st)) (hN : ps.length ≤ N.length) (hb : BodyOk P w K mg base N qual st k body) :
    FnOk P w K mg base (L2.CX P w) (k + 1) f fd ps (spF K mg ps.length (mkFn N.length body)) := by
  refine F.okX S (fun vs H Q E h => ?_) (fun cdv A outer s H vs Q E hr h => ?_)
  · obtain ⟨_, _, _, _, _, _, e, _⟩ := h
    exact e
  · obtain ⟨w', h', rs, eH, R, q, e, k'⟩ := h
    subst eH
    refine ⟨_, hb f cdv A outer s w' E hr (takes_of (E := E) rfl rfl rfl rfl) (passes_of rfl), ?_⟩
    have RE := Rel.entry (N := N) R q (by rw [e]; exact hN)
    exact ⟨w', _, h', rfl, RE, fin_ok R k'⟩
theorem def_ok (D : Df K mg y x qual st ps) (S : FnScope N ps (defScope st)) (hN : ps.length ≤ N.length) (hb : BodyOk P w K mg base N qual st k body) : DefOk P w K mg base (k + 1) y ps.length (mkFn N.length body) := by
  obtain ⟨f, fd, F, hm, hk, b⟩ := D.ex
  exact ⟨f, fd, ps, hm, hk, b, fn_body F S hN hb⟩
end
/-- a look at the scope of a comprehension -/
def blkC (N : List Str) (sc scope : Scope) (own : List (Str × Nat)) : Bool :=
  decide (scope.kind = .function) && scope.names.all (fun y => decide (scope.names.lookup y.1 = some y.2)) && own.all (fun p => decide (N[p.2]? = some p.1))
  && scope.names.all (fun y => !decide (y.2 = .free) || (decide (sc.names.lookup y.1 = some .cell) || decide (sc.names.lookup y.1 = some .free)))
  && scope.names.all (fun y => !(decide (y.2 = .local) || decide (y.2 = .cell)) || (decide (y.1 ∈ own.map (·.1)) || !decide (y.1 ∈ N)))
theorem blk_by {N : List Str} {sc scope : Scope} {own : List (Str × Nat)} (h : blkC N sc scope own = true) : BlkOk N sc scope own := by
  unfold blkC at h
  simp only [Bool.and_eq_true, Bool.or_eq_true, Bool.not_eq_true', decide_eq_true_eq, List.all_eq_true, decide_eq_false_iff_not] at h
  obtain ⟨⟨⟨⟨h1, h2⟩, h3⟩, h4⟩, h5⟩ := h
  exact ⟨h1, h2, h3, fun y hy e => (h4 y hy).resolve_left fun z => z e, fun y hy e => (h5 y hy).resolve_left fun z => by
    simp only [Bool.or_eq_false_iff, decide_eq_false_iff_not] at z
    rcases e with e | e
    · exact z.1 e
    · exact z.2 e⟩
/-- how many arguments -/
def ArgN (fs : A) (n : Nat) : Prop := ∀ r h xs h1, fs r h = .ok xs h1 → xs.length = n
theorem an0 : ArgN aNil 0 := fun _ _ _ _ e => aNil_len e
theorem anS {fa : E} {fs : A} {n : Nat} (h : ArgN fs n) : ArgN (aCons fa fs) (n + 1) := aCons_len h
section
variable {X : Cx} {W : WX} {k j n : Nat} {x : Str} {fn : Fn} {e : Expr} {es : List Expr} {fs : A} {p pos : Pos}
theorem s_call (c : DefOk X.prog X.w X.K X.mg X.base k x n fn) (tk : Takes X W) (hr : Room j X.A) (hn : ArgN fs n) (ha : PAs X W (e :: es) fs) (hk : k ≤ j := by decide) (hg : Gl X x := by rfl) (hdb : (x == ("__debug__" : Str)) = false := by decide)
    (he : PySem.starEach (e :: es) X.env = (false, PySem.eval e X.env) :: PySem.starEach es X.env := by rfl) (hpl : (PySem.backTo pos (PySem.starEach es X.env)).any (·.1) = false := by rfl) :
    PEs X W (.Call (.Name x p) (e :: es) [] pos) (eCall fn fs) := by
  obtain ⟨f, fd, ps, hm, hkp, b, F⟩ := c.ex
  exact PE.weak (pe_callSD (E := WE W) (dvs := []) (ds := []) F (hr.mono hk) hg hm hkp b .nil (fun σ => passAt tk σ) ha hdb he hpl) (call_cut hn)
end
theorem takes0 {X : Cx} : Takes X W0 := fun _ _ ⟨a, B, sI, pins, σ, H, cls, d, e, I, nb, up, sky, na, os, ag, w⟩ => w.elim
def spL (K : Frag) (fn : Fn) : Sp := fun vs H Q Ex => ∀ mg : Mg, spF K mg 1 fn vs H Q Ex
theorem cx_none {P : PySem.Program} {w : PySem.World} {outer : List PySem.Env} {H : Hp} {s s' : PySem.Shared} {u : PySem.Value} (c : L2.CX P w outer H s (fun _ _ _ => False) u s') : False := by
  obtain ⟨_, _, _, _, _, _, _, _, _, _, _, _, e⟩ := c
  exact e
/-- the law's last word -/
theorem law_sp {K : Frag} {mg : Mg} {fn : Fn} {H : Hp} {a : Addr} {ns : List Int} (hO : Only H) (hS : SqL K H a (ns.map V.int)) (hfn : ∃ h', fn [.v (.scr (ns.map .int))] [] = .ok (.v (.bool true)) h') : spF K mg 1 fn [.ref a] H (fun v _ => v = .bl true) fun _ _ _ => False := by
  obtain ⟨h', e⟩ := hfn
  refine ⟨⟨fun _ => a, fun _ => False, 0, H⟩, [], [.v (.scr (ns.map .int))], rfl, ⟨rfl, fun k o e => by simp at e, fun j k hj => absurd hj (Nat.not_lt_zero _), fun k hk => absurd hk (Nat.not_lt_zero _), fun b hb => hb.elim⟩, ⟨.ref a, [], rfl, ⟨a, ns.map V.int, rfl, ?_, ?_⟩, rfl⟩, rfl, ?_⟩
  · rcases hS with z | z
    · exact .inl ⟨z, fun z => z⟩
    · exact .inr z
  · clear e hS hO
    induction ns with
    | nil => rfl
    | cons n ns ih => exact ⟨_, _, rfl, rfl, ih⟩
  · rw [e]
    intro w' v l R q
    exact q
end SM

/-! SMMore: further statements, constants. -/
namespace SM
open PySem (Str Expr Stmt Pos Operator CmpOp Scope)
open L2 hiding St tB tAnd tOr tNot iRng1 iRng2
open PySem (wpAny_getItem_list wpAny_getItem_list_neg seqIndex_of seqIndex_neg)
/-! ### constants of the module -/
def KV (K : Frag) (y : Val) (u : PySem.Value) : Prop := ∃ v, RelV v u ∧ ∀ w, RVal K w y v
def KVs (K : Frag) (ys : List Val) (us : List PySem.Value) : Prop := ∃ vs, L2.Vals vs us ∧ ∀ w, RVals K w ys vs
section
variable {K : Frag} {mg : Mg} {x : Str} {y : Val} {ys : List Val} {u : PySem.Value} {us : List PySem.Value} {a : Addr} {od : Option Addr} {n : Nat} {sl : Array (Option PySem.Value)}
theorem kv_int {i : Int} {t : PySem.Tok} : KV K (.int i) (.int i t) := ⟨.int i, ⟨t, rfl⟩, fun _ => rfl⟩
theorem kvs_nil : KVs K [] [] := ⟨[], .nil, fun _ => rfl⟩
theorem kvs_cons (h : KV K y u) (hs : KVs K ys us) : KVs K (y :: ys) (u :: us) := by
  obtain ⟨v, r, q⟩ := h
  obtain ⟨vs, rs, qs⟩ := hs
  exact ⟨v :: vs, .cons r rs, fun w => ⟨v, vs, rfl, q w, qs w⟩⟩
theorem kv_tup {its : Array PySem.Value} (l : K.lookup a = some ⟨.type "tuple", od, .seq its n, sl⟩) (h : KVs K ys its.toList) (hz : its.size ≤ PySem.sizeLine := by exact Nat.le_of_ble_eq_true rfl) : KV K (.tup ys) (.ref a) := by
  obtain ⟨vs, rs, qs⟩ := h
  exact ⟨.ref a, rfl, fun w => ⟨a, vs, rfl, .inr ⟨_, its, n, l, rfl, rfl, hz, rs⟩, qs w⟩⟩
/-- a global name's value -/
structure Cs (K : Frag) (mg : Mg) (x : Str) (y : Val) : Prop where
  ex : ∃ u, mg x = some u ∧ KV K y u
theorem cs_mk (h : mg x = some u) (k : KV K y u) : Cs K mg x y := ⟨⟨u, h, k⟩⟩
end
section
variable {X : Cx} {W : WX} {x : Str} {y : Val} {pos : Pos}
theorem s_cst (c : Cs X.K X.mg x y) (hg : Gl X x := by rfl) (hd : (x == ("__debug__" : Str)) = false := by decide) : PEs X W (.Name x pos) (eC y) := by
  obtain ⟨u, h, v, r, q⟩ := c.ex
  exact s_glob hg h r q hd
end
/-! ### o[k] op= e -/
theorem get_list {X : Cx} : PGet X (rIxL X.K) := by
  intro pins s σ H x y v u Q I rx ry h
  obtain ⟨p, xs, i, z, rfl, rfl, hq, he, q⟩ := h
  cases rx
  obtain ⟨t, rfl⟩ := ry
  obtain ⟨its, r, pl, hz⟩ := I.list hq
  obtain ⟨j, h1, h2, h3, h4, h5⟩ := atI_get he
  obtain ⟨w, ew, rw'⟩ := r.get h2
  have hl := r.length
  have hn := line63
  have fin : EP X pins σ Q w s := ⟨z, H, I, rw', q⟩
  by_cases h0 : 0 ≤ i
  · have hj : i.toNat = j := by
      rw [seqIndex_of h0 h5] at h1
      exact Option.some.inj h1
    exact wpAny_getItem_list pl.isList h0 (by omega) (by rw [hj]; simpa using ew) fin
  · have hj : (i + (its.toArray.size : Int)).toNat = j := by
      rw [seqIndex_neg (by omega) h4] at h1
      rw [List.size_toArray, ← hl]
      exact Option.some.inj h1
    exact wpAny_getItem_list_neg pl.isList (by omega) (by rw [List.size_toArray] <;> omega) (by omega) (by rw [hj]; simpa using ew) fin
def sAugHp (f : F2) (o ix a : E) : S := fun r h => (o r h).then r fun p h1 => match p with
  | .v (.obj m) => (ix r h1).then r fun j h2 => match j with
    | .v (.int j) => match h2[m]? with
      | some (.lst xs) => match L2.atI xs j with
        | some z => (a r h2).then r fun y h3 => match f h3 (.v z) y with
          | some u => match u.keep with
            | some u => match h3[m]? with
              | some (.lst ys) => match L2.ixN ys.length j with
                | some n => .nx r (h3.set m (.lst (ys.set n u)))
                | none => .no
              | _ => .no
            | none => .no
          | none => .no
        | none => .no
      | _ => .no
    | _ => .no
  | _ => .no
section
variable {X : Cx} {W : WX} {w0 : Rw} {M0 : Addr → Prop} {pos p2 : Pos} {a b c : Expr} {fa fb fc : E}
theorem b_augHp {op : Operator} {f : F2} {r2 : R2} (ho : OpR X (PySem.inplaceOp op) r2) (hf : F2Ok X.K X.mg f r2) (hc : PEs X W c fc) (hb : PEs X W b fb) (ha : PEs X W a fa)
    (hst : ∀ ov iv new, PySem.augStore b ov iv new = (do PySem.holding [new, ov, iv] (PySem.setItem ov iv new); PySem.release [new, ov, iv] []; pure .next) := by intros; rfl) :
    PSs' X W w0 M0 (.AugAssign (.Subscript c b p2) op a pos) (sAugHp f fc fb fa) := PS.weak (ps_augS hc hb get_list ha (show PIp X op r2 from ho) set_list hst) fun D σ H ⟨w, r, h, e, R, k⟩ => by
  subst e
  refine ⟨w, r, h, rfl, R.rel, SK.cut R (fun x h1 w1 v1 l1 R1 q1 k1 => ?_) k⟩
  split at k1
  · rename_i m
    refine ⟨w1, r, h1, rfl, R.rel.le l1 R1, SK.cut (R.le' l1 R1) (fun j h2 w2 v2 l2 R2 q2 k2 => ?_) k1⟩
    have R12 := R.le' (l1.trans l2) R2
    split at k2
    · rename_i j
      split at k2
      · rename_i xs hm
        split at k2
        · rename_i z hz
          have e2 : v2 = .int j := q2
          subst e2
          obtain ⟨hk, ev⟩ := (q1.le R1 l2 : RVal X.K w2 (.obj m) v1)
          subst ev
          obtain ⟨ys, ey, qy⟩ := R2.obj m _ hm
          obtain ⟨vz, hvz, qz⟩ := qy.atI hz
          refine ⟨_, ys, j, vz, rfl, rfl, .inl (.inl ey), hvz, w2, r, h2, rfl, R12.rel, SK.cut R12 (fun y h3 w3 v3 l3 R3 q3 k3 => ?_) k2⟩
          split at k3
          · rename_i u hu
            split at k3
            · rename_i u' hu'
              split at k3
              · rename_i zs hm3
                split at k3
                · rename_i n hn
                  have qz3 : RRes X.K w3 w3 (.v z) vz := RVal.le R2 l3 qz
                  refine hf w3 w3 w2 h3 (.v z) y u vz v3 _ R3 qz3 q3 hu fun w4 v4 l4 R4 q4 => ?_
                  obtain ⟨w5, eH, l5, R5, q5⟩ := q4.keep R4 l4 hu'
                  have hk5 : m < w5.n := Nat.lt_of_lt_of_le hk (l3.trans l5).n
                  have eio : w5.io m = w2.io m := (l3.trans l5).io m hk
                  obtain ⟨us, eu, qu⟩ := R5.obj m _ hm3
                  rw [← eH, ← eio]
                  refine ⟨_, us, j, n, rfl, rfl, eu, by rw [← qu.length]; exact hn, ?_⟩
                  exact k3 (w5.updO (w5.io m) _) σ ((R12.le' (l3.trans l5) R5).le' (Le.upd_obj hk5) (R5.upd_obj hm3 (qu.set q5 n)))
                · exact k3.elim
              · exact k3.elim
            · exact k3.elim
          · exact k3.elim
        · exact k2.elim
      · exact k2.elim
    · exact k2.elim
  · exact k1.elim
theorem b_augHpAdd (hc : PEs X W c fc) (hb : PEs X W b fb) (ha : PEs X W a fa) (hst : ∀ ov iv new, PySem.augStore b ov iv new = (do PySem.holding [new, ov, iv] (PySem.setItem ov iv new); PySem.release [new, ov, iv] []; pure .next) := by intros; rfl) :
    PSs' X W w0 M0 (.AugAssign (.Subscript c b p2) .Add a pos) (sAugHp (fI0 fun i j => .int (i + j)) fc fb fa) := b_augHp iop_add (fI0_ok fun _ _ _ => rfl) hc hb ha hst
theorem b_augHpSub (hc : PEs X W c fc) (hb : PEs X W b fb) (ha : PEs X W a fa) (hst : ∀ ov iv new, PySem.augStore b ov iv new = (do PySem.holding [new, ov, iv] (PySem.setItem ov iv new); PySem.release [new, ov, iv] []; pure .next) := by intros; rfl) :
    PSs' X W w0 M0 (.AugAssign (.Subscript c b p2) .Sub a pos) (sAugHp fSub fc fb fa) := b_augHp iop_sub (fI0_ok fun _ _ _ => rfl) hc hb ha hst
end
end SM

/-! SMSlice: slices, ranges, calls without arguments, unpacking of lists. -/
namespace SM
open PySem (Str Expr Stmt Pos Operator CmpOp Scope)
open L2 hiding St tB tAnd tOr tNot iRng1 iRng2 iRng3
/-! ### slices -/
def cutX (xs : List Val) (lo hi : Option Int) : List Val := (xs.drop (HT.sIx xs.length 0 lo)).take (HT.sIx xs.length xs.length hi - HT.sIx xs.length 0 lo)
theorem RVals.cutI {K : Frag} {w : Rw} {xs : List Val} {vs : List V} (q : RVals K w xs vs) (lo hi : Option Int) : RVals K w (cutX xs lo hi) (cutV vs lo hi) := by
  unfold cutX cutV
  rw [q.length]
  exact (q.drop _).take _
theorem cut_whole {xs : List Val} {lo hi : Option Int} (h : HT.sIx xs.length 0 lo = 0 ∧ HT.sIx xs.length xs.length hi = xs.length) : cutX xs lo hi = xs := by
  unfold cutX
  rw [h.1, h.2, List.drop_zero, Nat.sub_zero, List.take_length]
def fCut (h : Heap) (x : RV) (lo hi : Option Int) : Option RV := match x with
  | .v (.str z) => if z.length ≤ line then some (.v (.str (L2.cutS z lo hi))) else none
  | x => match look h x with
    | some (true, xs) => some (.v (.tup (cutX xs lo hi)))
    | some (false, xs) => some (.own (cutX xs lo hi))
    | none => none
/-- a slice's part -/
def ePart : Option E → Env → Heap → EO (Option Int)
  | none => fun _ h => .ok none h
  | some a => fun r h => (a r h).bind fun x h1 => match x with
    | .v (.int i) => .ok (some i) h1
    | _ => .no
def eSl (a : E) (lo hi : Option E) : E := fun r h => (a r h).bind fun x h1 => (ePart lo r h1).bind fun l h2 => (ePart hi r h2).bind fun u h3 => opt (fCut h3 x l u) h3
/-- every so many-th item of a list -/
def pickG {α : Type} (xs : List α) (lo hi st : Option Int) : List α := (PySem.sliceRange (PySem.sliceBounds lo hi st xs.length).1 (PySem.sliceBounds lo hi st xs.length).2.1 (PySem.sliceBounds lo hi st xs.length).2.2).filterMap (xs[·]?)
def fPick (h : Heap) (x : RV) (lo hi : Option Int) (st : Int) : Option RV := match look h x with
  | some (false, xs) => if st ≠ 0 ∧ (pickG xs lo hi (some st)).length ≤ line then some (.own (pickG xs lo hi (some st))) else none
  | _ => none
def eSlSt (a : E) (lo hi : Option E) (st : Int) : E := fun r h => (a r h).bind fun x h1 => (ePart lo r h1).bind fun l h2 => (ePart hi r h2).bind fun u h3 => opt (fPick h3 x l u st) h3
def fRev : F1 := fun h x => match look h x with
  | some (false, xs) => some (.own xs.reverse)
  | _ => none
theorem EO.assoc {α β γ : Type} (o : EO α) (g : α → Heap → EO β) (f : β → Heap → EO γ) : (o.bind g).bind f = o.bind fun x h => (g x h).bind f := by
  cases o <;> rfl
def TOf (K : Frag) (mg : Mg) (W : WX) : Option E → TO
  | none => tNoPart
  | some a => tPart (tE K mg W a)
theorem part_cut {K : Frag} {mg : Mg} {W : WX} {w : Rw} {r : Env} {h : Heap} {σ : L2.St} {Q : VK} {Q' : Option Int → Hp → Prop} {f : Option Int → Heap → EO RV} (R : Rel K mg w r h σ) (c : ∀ o h1 w1, Le w w1 → RHp K mg w1 h1 → EK K mg W w1 σ Q (f o h1) → Q' o w1.H) :
    ∀ lo : Option E, EK K mg W w σ Q ((ePart lo r h).bind f) → TOf K mg W lo σ w.H Q'
  | none, k => c none h w (Le.refl w) R.hp k
  | some a, k => by
    have k : EK K mg W w σ Q (((a r h).bind fun x h1 => match x with
      | .v (.int i) => .ok (some i) h1
      | _ => .no).bind f) := k
    rw [EO.assoc] at k
    refine ⟨w, r, h, rfl, R, EK.cut (fun x h1 w1 v1 l1 R1 q1 k1 => ?_) k⟩
    split at k1
    · rename_i i
      exact ⟨i, q1, c (some i) h1 w1 l1 R1 k1⟩
    · exact k1.elim
abbrev POs (X : Cx) (W : WX) (e : Option Expr) (lo : Option E) : Prop := PO X e (TOf X.K X.mg W lo)
theorem vals_pick {xs : List V} {its : List PySem.Value} (r : Vals xs its) : ∀ ns : List Nat, Vals (ns.filterMap (xs[·]?)) (ns.filterMap (its[·]?))
  | [] => .nil
  | n :: ns => by
    have ih := vals_pick r ns
    cases hx : xs[n]? with
    | none =>
      have hi : its[n]? = none := by
        rw [List.getElem?_eq_none_iff] at hx ⊢
        rw [← r.length]
        exact hx
      rw [List.filterMap_cons, List.filterMap_cons]
      simp only [hx, hi]
      exact ih
    | some v =>
      obtain ⟨u, hu, ru⟩ := r.get hx
      rw [List.filterMap_cons, List.filterMap_cons]
      simp only [hx, hu]
      exact .cons ru ih
theorem RVals.pick {K : Frag} {w : Rw} {xs : List Val} {vs : List V} (q : RVals K w xs vs) : ∀ ns : List Nat, RVals K w (ns.filterMap (xs[·]?)) (ns.filterMap (vs[·]?))
  | [] => rfl
  | n :: ns => by
    have ih := RVals.pick q ns
    cases hx : xs[n]? with
    | none =>
      have hi : vs[n]? = none := by
        rw [List.getElem?_eq_none_iff] at hx ⊢
        rw [← q.length]
        exact hx
      rw [List.filterMap_cons, List.filterMap_cons]
      simp only [hx, hi]
      exact ih
    | some v =>
      obtain ⟨u, hu, ru⟩ := q.get hx
      rw [List.filterMap_cons, List.filterMap_cons]
      simp only [hx, hu]
      exact ⟨u, _, rfl, ru, ih⟩
section
variable {X : Cx} {W : WX} {pos p2 p3 : Pos} {a s : Expr} {lo hi : Option Expr} {fa : E} {fl fu : Option E}
theorem p_none : POs X W none none := po_none
theorem p_some (h : PEs X W a fa) : POs X W (some a) (some fa) := po_some h
theorem s_sl (ha : PEs X W a fa) (hl : POs X W lo fl) (hu : POs X W hi fu) : PEs X W (.Subscript a (.Slice lo hi none p2) pos) (eSl fa fl fu) :=
  PE.weak (pe_slice (sl_list.or (sl_tupA.or sl_str)) ha hl hu) fun σ H Q ⟨w, r, h, e, R, k⟩ => by
    subst e
    refine ⟨w, r, h, rfl, R, EK.cut (fun x h1 w1 v1 l1 R1 q1 k1 => part_cut (R.le l1 R1) (fun l h2 w2 l2 R2 k2 => part_cut (R.le (l1.trans l2) R2) (fun u h3 w3 l3 R3 k3 => ?_) fu k2) fl k1) k⟩
    have q3 := (q1.le R1 l2).le R2 l3
    obtain ⟨z, ez, kz⟩ := opt_cut k3
    unfold fCut at ez
    split at ez
    · rename_i z0
      split at ez
      · rename_i hz
        cases ez
        have e1 : v1 = .str z0 := q3
        subst e1
        exact .inr (.inr ⟨z0, rfl, hz, kz w3 _ (Le.refl w3) R3 rfl⟩)
      · cases ez
    · split at ez
      · rename_i xs hl
        cases ez
        obtain ⟨p, ys, e1, sq, q, ex⟩ := look_tup R3 q3 hl
        subst e1 ex
        refine .inr (.inl ⟨p, ys, rfl, sq, fun hw => ?_, fun _ t ht => kz (w3.newT t _) _ (Le.newT ht) (R3.newT ht) (res_newT R3 ht (q.cutI l u))⟩)
        rw [← q.length] at hw
        rw [cut_whole hw] at kz
        exact kz w3 _ (Le.refl w3) R3 q3
      · rename_i xs hl
        cases ez
        obtain ⟨p, ys, e1, sq, q⟩ := look_lst R3 q3 hl
        subst e1
        exact .inl ⟨p, ys, rfl, sq, fun t ht => kz (w3.newL t _) _ (Le.newL ht R3) (R3.newL ht) (res_newL R3 ht (q.cutI l u))⟩
      · cases ez
theorem pe_sliceSt {te : TE} {tl th ts : TO} (he : PE X a te) (hl : PO X lo tl) (hu : PO X hi th) (hst : PO X (some s) ts) : PE X (.Subscript a (.Slice lo hi (some s) p2) pos) (fun σ H Q => te σ H fun x H1 => tl σ H1 fun l H2 => th σ H2 fun u H3 => ts σ H3 fun c H4 =>
    c ≠ some 0 ∧ ∃ b xs, x = .ref b ∧ SqL X.K H4 b xs ∧ (pickG xs l u c).length ≤ PySem.sizeLine ∧ ∀ p, H4 p = none → Q (.ref p) (upd H4 p (.lst (pickG xs l u c)))) := by
  refine ⟨fun pins s0 σ H Q I h => ?_⟩
  refine PyProof.Rows.Subscript_ (thn (he.run pins s0 σ H _ I h) fun v s1 ⟨x, H1, I1, r1, q1⟩ => ?_)
  refine PySem.wpAny_Slice (thn (hl.run pins s1 σ H1 _ I1 q1) fun vl s2 ⟨l, H2, I2, pl, q2⟩ => thn (hu.run pins s2 σ H2 _ I2 q2) fun vu s3 ⟨u, H3, I3, pu, q3⟩ => thn (hst.run pins s3 σ H3 _ I3 q3) fun vs s4 ⟨c, H4, I4, ps, q4⟩ => ?_)
  obtain ⟨c0, b, xs, ex, hx, hz, q⟩ := q4
  subst ex
  cases r1
  have I5 : Inv X pins σ H4 { s4 with heap := s4.heap.push { cls := .type "slice", data := .fields #[vl, vu, vs] } } := I4.kept (t' := s4.toks) fun b ob q => PySem.Heap.get?_push_of_some _ q
  obtain ⟨its, r, ht, hzz⟩ := I5.list hx
  have hlen := r.length
  refine PyProof.Rows.tail_any (ops := [.ref b, .ref s4.heap.objs.size]) ht.isList.typeIs (PySem.slot_list_getitem.lookup) ?_ (by with_unfolding_all rfl)
  refine PySem.wpAny_getItem_list_slice ht.isList (PySem.Heap.IsSliceOf.new _ vl vu vs) pl pu ps c0 ?_ (by rw [List.size_toArray]; omega)
  have rp : Vals (pickG xs l u c) (PySem.slicePick its.toArray l u c).toList := by
    unfold pickG PySem.slicePick
    rw [List.size_toArray, ← hlen]
    have := vals_pick r (PySem.sliceRange (PySem.sliceBounds l u c xs.length).1 (PySem.sliceBounds l u c xs.length).2.1 (PySem.sliceBounds l u c xs.length).2.2)
    simpa using this
  refine ⟨.ref _, _, I5.laid (t' := s4.toks) (o := .lst (pickG xs l u c)) (fun b ob q => PySem.Heap.get?_push_of_some _ q) (Nat.le_refl _) ?_, rfl, q _ (I5.hok.fresh (Nat.le_refl _))⟩
  refine ⟨hz, (PySem.slicePick its.toArray l u c).toList, 0, rp, ?_⟩
  rw [Array.toArray_toList]
  exact PySem.Heap.get?_push_size _ rfl
theorem s_slSt {c : Int} (ha : PEs X W a fa) (hl : POs X W lo fl) (hu : POs X W hi fu) {j : Nat} : PEs X W (.Subscript a (.Slice lo hi (some (.Constant (.int c) j p3)) p2) pos) (eSlSt fa fl fu c) :=
  PE.weak (pe_sliceSt ha hl hu (po_some pe_int)) fun σ H Q ⟨w, r, h, e, R, k⟩ => by
    subst e
    refine ⟨w, r, h, rfl, R, EK.cut (fun x h1 w1 v1 l1 R1 q1 k1 => part_cut (R.le l1 R1) (fun l h2 w2 l2 R2 k2 => part_cut (R.le (l1.trans l2) R2) (fun u h3 w3 l3 R3 k3 => ?_) fu k2) fl k1) k⟩
    have q3 := (q1.le R1 l2).le R2 l3
    obtain ⟨z, ez, kz⟩ := opt_cut k3
    unfold fPick at ez
    split at ez
    · rename_i xs hl
      split at ez
      · rename_i hc
        cases ez
        obtain ⟨p, ys, e1, sq, q⟩ := look_lst R3 q3 hl
        subst e1
        have ql : (pickG xs l u (some c)).length = (pickG ys l u (some c)).length := by
          unfold pickG
          rw [q.length]
          exact (q.pick _).length
        have qq : RVals X.K w3 (pickG xs l u (some c)) (pickG ys l u (some c)) := by
          unfold pickG
          rw [q.length]
          exact q.pick _
        exact ⟨c, rfl, fun z => hc.1 (Option.some.inj z), p, ys, rfl, sq, by rw [← ql]; exact hc.2, fun t ht => kz (w3.newL t _) _ (Le.newL ht R3) (R3.newL ht) (res_newL R3 ht qq)⟩
      · cases ez
    · cases ez
theorem s_rev {j : Nat} {p4 : Pos} (ha : PEs X W a fa) : PEs X W (.Subscript a (.Slice none none (some (.UnaryOp .USub (.Constant (.int 1) j p4) p3)) p2) pos) (e1 fRev fa) :=
  PE.weak (pe_revL ha) fun σ H Q ⟨w, r, h, e, R, k⟩ => by
    subst e
    refine ⟨w, r, h, rfl, R, EK.cut (fun x h1 w1 v1 l1 R1 q1 k1 => ?_) k⟩
    obtain ⟨z, ez, kz⟩ := opt_cut k1
    unfold fRev at ez
    split at ez
    · rename_i xs hl
      cases ez
      obtain ⟨p, ys, e1, sq, q⟩ := look_lst R1 q1 hl
      subst e1
      exact ⟨p, ys, rfl, sq, fun t ht => kz (w1.newL t _) _ (Le.newL ht R1) (R1.newL ht) (res_newL R1 ht q.reverse)⟩
    · cases ez
end
/-! ### list(range(..)), tuple(range(..)) -/
def eLR (tup : Bool) (a b : E) : E := fun r h => (a r h).bind fun x h1 => (b r h1).bind fun y h2 => match x, y with
  | .v (.int i), .v (.int j) => if -(2 ^ 62) ≤ i ∧ i < 2 ^ 62 ∧ -(2 ^ 62) ≤ j ∧ j < 2 ^ 62 ∧ (j - i).toNat ≤ line then .ok (if tup then .v (.tup (upTo i (j - i).toNat)) else .own (upTo i (j - i).toNat)) h2 else .no
  | _, _ => .no
theorem rv_upTo {K : Frag} {w : Rw} : ∀ (n : Nat) (lo : Int), RVals K w (upTo lo n) ((List.range n).map fun i => V.int (lo + (i : Nat)))
  | 0, lo => by
    unfold upTo
    rfl
  | n + 1, lo => by
    unfold upTo
    rw [List.range_succ_eq_map, List.map_cons, List.map_map]
    refine ⟨_, _, rfl, by rw [show lo + ((0 : Nat) : Int) = lo by omega]; rfl, ?_⟩
    have := rv_upTo (K := K) (w := w) n (lo + 1)
    have e : (fun i : Nat => V.int (lo + 1 + (i : Nat))) = (fun i : Nat => V.int (lo + (i : Nat))) ∘ Nat.succ := by
      funext i
      show V.int _ = V.int _
      congr 1
      show lo + 1 + (i : Int) = lo + ((i + 1 : Nat) : Int)
      omega
    rw [e] at this
    exact this
section
variable {X : Cx} {W : WX} {pos p p1 pos1 : Pos} {a b : Expr} {fa fb : E}
theorem s_listRg2 (hc : X.calm = true) (hgl : Gl X "list") (hml : X.mg "list" = none) (hg : Gl X "range") (hm : X.mg "range" = none) (ha : PEs X W a fa) (hb : PEs X W b fb)
    (na : PySem.starEach [a, b] X.env = (false, PySem.eval a X.env) :: PySem.starEach [b] X.env := by rfl) (nb : PySem.starEach [b] X.env = (false, PySem.eval b X.env) :: PySem.starEach [] X.env := by rfl) (hp : (PySem.backTo pos1 (PySem.starEach [b] X.env)).any (·.1) = false := by rfl)
    (nl : PySem.starEach [.Call (.Name "range" p1) [a, b] [] pos1] X.env = (false, PySem.eval (.Call (.Name "range" p1) [a, b] [] pos1) X.env) :: PySem.starEach [] X.env := by rfl) :
    PEs X W (.Call (.Name "list" p) [.Call (.Name "range" p1) [a, b] [] pos1] [] pos) (eLR false fa fb) := PE.weak (pe_listRg hc hgl hml (prg_2 hg hm ha hb na nb hp) nl) fun σ H Q ⟨w, r, h, e, R, k⟩ => by
  subst e
  refine ⟨w, r, h, rfl, R, EK.cut (fun x h1 w1 v1 l1 R1 q1 k1 => ?_) k⟩
  refine ⟨w1, r, h1, rfl, R.le l1 R1, EK.cut (fun y h2 w2 v2 l2 R2 q2 k2 => ?_) k1⟩
  split at k2
  · rename_i i j
    have e1 : v1 = .int i := q1
    have e2 : v2 = .int j := q2
    subst e1 e2
    split at k2
    · rename_i c
      refine ⟨i, j, rfl, rfl, ⟨c.1, c.2.1, c.2.2.1, c.2.2.2.1, c.2.2.2.2⟩, fun t ht => k2 (w2.newL t _) _ (Le.newL ht R2) (R2.newL ht) (res_newL R2 ht (rv_upTo _ _))⟩
    · exact k2.elim
  · exact k2.elim
theorem s_listRg1 (hc : X.calm = true) (hgl : Gl X "list") (hml : X.mg "list" = none) (hg : Gl X "range") (hm : X.mg "range" = none) (ha : PEs X W a fa)
    (na : PySem.starEach [a] X.env = (false, PySem.eval a X.env) :: PySem.starEach [] X.env := by rfl)
    (nl : PySem.starEach [.Call (.Name "range" p1) [a] [] pos1] X.env = (false, PySem.eval (.Call (.Name "range" p1) [a] [] pos1) X.env) :: PySem.starEach [] X.env := by rfl) :
    PEs X W (.Call (.Name "list" p) [.Call (.Name "range" p1) [a] [] pos1] [] pos) (eLR false (eC (.int 0)) fa) := PE.weak (pe_listRg hc hgl hml (prg_1 hg hm ha na) nl) fun σ H Q ⟨w, r, h, e, R, k⟩ => by
  subst e
  have k : EK X.K X.mg W w σ Q ((fa r h).bind fun y h2 => match (RV.v (.int 0)), y with
    | .v (.int i), .v (.int j) => if -(2 ^ 62) ≤ i ∧ i < 2 ^ 62 ∧ -(2 ^ 62) ≤ j ∧ j < 2 ^ 62 ∧ (j - i).toNat ≤ line then .ok (if false then .v (.tup (upTo i (j - i).toNat)) else .own (upTo i (j - i).toNat)) h2 else .no
    | _, _ => .no) := k
  refine ⟨w, r, h, rfl, R, EK.cut (fun y h2 w2 v2 l2 R2 q2 k2 => ?_) k⟩
  split at k2
  · rename_i i j ei
    cases ei
    have e2 : v2 = .int j := q2
    subst e2
    split at k2
    · rename_i c
      refine ⟨j, rfl, ⟨c.1, c.2.1, c.2.2.1, c.2.2.2.1, c.2.2.2.2⟩, fun t ht => k2 (w2.newL t _) _ (Le.newL ht R2) (R2.newL ht) (res_newL R2 ht (rv_upTo _ _))⟩
    · exact k2.elim
  · exact k2.elim
end
/-! ### range with a step -/
def stepTo (lo c : Int) : Nat → List Val
  | 0 => []
  | n + 1 => .int lo :: stepTo (lo + c) c n
theorem stepTo_len (c : Int) : ∀ (n : Nat) (lo : Int), (stepTo lo c n).length = n
  | 0, _ => rfl
  | n + 1, lo => by
    unfold stepTo
    rw [List.length_cons, stepTo_len c n]
theorem stepTo_get (c : Int) : ∀ (n : Nat) (lo : Int) (i : Nat), i < n → (stepTo lo c n)[i]? = some (.int (lo + (i : Nat) * c))
  | 0, _, _, h => absurd h (Nat.not_lt_zero _)
  | n + 1, lo, 0, _ => by
    unfold stepTo
    simp
  | n + 1, lo, i + 1, h => by
    unfold stepTo
    rw [List.getElem?_cons_succ, stepTo_get c n (lo + c) i (by omega)]
    congr 2
    rw [show ((i + 1 : Nat) : Int) = (i : Int) + 1 by omega, Int.add_mul]
    omega
def iRng3 (a b c : E) : I := fun r h => (a r h).bind fun x h1 => (b r h1).bind fun y h2 => (c r h2).bind fun z h3 => match x, y, z with
  | .v (.int i), .v (.int j), .v (.int k) => if k ≠ 0 ∧ k.natAbs < 1073741824 ∧ PySem.Builtin.Range.small i j k = true ∧ 0 ≤ PySem.Builtin.Range.rangeSize i j k then .ok (stepTo i k (PySem.Builtin.Range.rangeSize i j k).toNat, []) h3 else .no
  | _, _, _ => .no
theorem wk_rangeC {K : Frag} {mg : Mg} {ow : Addr → Prop} {w : Rw} {h : Heap} {lo c : Int} {n : Nat} : Wk K mg ow w h (Itc lo c n) (stepTo lo c n) [] := fun w2 h2 l R2 _ => by
  rw [stepTo_len]
  refine ⟨fun i hi => hi, Nat.le_refl _, fun i x H' hi ⟨e, y⟩ => ?_⟩
  subst y
  exact ⟨w2, _, e.symm, Le.refl w2, R2, stepTo_get c n lo i hi, rfl⟩
section
variable {X : Cx} {W : WX} {pos p : Pos} {tg a b c : Expr} {fa fb fc : E} {k n j : Nat} {x : Str} {fn : Fn} {w0 : Rw} {M0 : Addr → Prop} {es : List Expr} {pos' : Pos}
theorem i_rng3 (hg : Gl X "range") (hm : X.mg "range" = none) (ha : PEs X W a fa) (hb : PEs X W b fb) (hc : PEs X W c fc)
    (hs : PySem.starEach [a, b, c] X.env = (false, PySem.eval a X.env) :: PySem.starEach [b, c] X.env := by rfl) (hs2 : PySem.starEach [b, c] X.env = (false, PySem.eval b X.env) :: PySem.starEach [c] X.env := by rfl) (hs3 : PySem.starEach [c] X.env = (false, PySem.eval c X.env) :: PySem.starEach [] X.env := by rfl)
    (hpl : (PySem.backTo pos (PySem.starEach [b, c] X.env)).any (·.1) = false := by rfl) :
    PIs X W tg (.Call (.Name "range" p) [a, b, c] [] pos) (iRng3 fa fb fc) :=
  PI.weak (pi_range3 hg hm (pa_cons ha (pa_cons hb (pa_cons hc pa_nil hs3) hs2) hs) hs hpl) fun σ H R ⟨w, r, h, e, Rr, k⟩ => by
    subst e
    refine ⟨w, r, h, rfl, Rr, EK.cutI (fun x h1 w1 v1 l1 R1 q1 k1 => ?_) k⟩
    refine ⟨w1, r, h1, rfl, Rr.le l1 R1, EK.cutI (fun y h2 w2 v2 l2 R2 q2 k2 => ?_) (IK.le l1 k1)⟩
    have k2' := IK.le l2 k2
    refine ⟨w2, r, h2, rfl, Rr.le (l1.trans l2) R2, EK.cutI (fun z h3 w3 v3 l3 R3 q3 k3 => ?_) k2'⟩
    split at k3
    · rename_i i j c
      have e1 : v1 = .int i := q1
      have e2 : v2 = .int j := q2
      have e3 : v3 = .int c := q3
      subst e1 e2 e3
      split at k3
      · rename_i cc
        exact ⟨i, j, c, _, rfl, ⟨cc.1, cc.2.1, cc.2.2.1, (Int.toNat_of_nonneg cc.2.2.2).symm⟩, k3 w3 _ l3 R3 wk_rangeC⟩
      · exact k3.elim
    · exact k3.elim
/-! ### f() -/
theorem s_call0 (c : DefOk X.prog X.w X.K X.mg X.base k x 0 fn) (tk : Takes X W) (hr : Room j X.A) (hk : k ≤ j := by decide) (hg : Gl X x := by rfl) (hdb : (x == ("__debug__" : Str)) = false := by decide) : PEs X W (.Call (.Name x p) [] [] pos) (eCall fn aNil) := by
  obtain ⟨f, fd, ps, hm, hkp, b, F⟩ := c.ex
  have base : PE X (.Call (.Name x p) [] [] pos) (tCallSD (spF X.K X.mg 0 fn) [] (WE W) tNil) := by
    refine ⟨fun pins s σ H Q I h => ?_⟩
    refine PySem.wpAny_Call_Name_kw (ld_glob I hg hm ?_ hdb)
    exact PySem.W.callWith_K0 I.kIn hkp (run_fnSD (us := []) F (hr.mono hk) b .nil (passAt tk σ) I .nil h)
  refine PE.weak base fun σ H Q q => ?_
  obtain ⟨w, r, h, e, R, kk⟩ := call_cut (n := 0) an0 σ H Q q
  subst e
  exact kk w [] (Le.refl w) R.hp rfl
/-! ### (a, b, ..) = a list -/
def sUnpL (is : List Nat) (a : E) : S := fun r h => (a r h).then r fun x h1 => match look h1 x with
  | some (false, xs) => if xs.length = is.length then .nx (setAll is xs r) h1 else .no
  | _ => .no
theorem b_unpL {k : Nat} {is : List Nat} (hc : X.calm = true) (ha : PEs X W a fa) (hg : PGs X es (tGs is)) (hn : (PySem.assignEach es X.env).length = is.length := by rfl) (hst : (PySem.assignEach es X.env).findIdx? (·.1) = none := by rfl)
    (hs : PySem.swapsWithSole [.Tuple es k pos'] a pos.line X.env = pure false := by rfl) (hw : PySem.swappedStores [.Tuple es k pos'] a X.env = pure none := by rfl)
    (h1 : (PySem.assignEach [.Tuple es k pos'] X.env).map (·.2) = [PySem.assign (.Tuple es k pos') X.env] := by rfl) : PSs' X W w0 M0 (.Assign [.Tuple es k pos'] a pos) (sUnpL is fa) :=
  PS.weak (ps_asg ha (pg_unl hc hg hn hst) hs hw h1) fun D σ H ⟨w, r, h, e, R, k⟩ => by
    subst e
    refine ⟨w, r, h, rfl, R.rel, SK.cut R (fun x h1 w1 v1 l1 R1 q1 k1 => ?_) k⟩
    split at k1
    · rename_i xs hl
      split at k1
      · rename_i hz
        obtain ⟨a, ys, e1, s, q2⟩ := look_lst R1 q1 hl
        exact ⟨a, ys, e1, s, by rw [← RVals.length q2]; exact hz, by rw [← RVals.length q2]; exact hz, k1 w1 _ ((R.le' l1 R1).setAll q2)⟩
      · exact k1.elim
    · exact k1.elim
end
end SM

/-! SMExt: extend by a list or a tuple. -/
namespace SM
open PySem (Str Expr Stmt Pos Operator CmpOp Scope)
open L2 hiding St tB tAnd tOr tNot iRng1 iRng2 iRng3
open PySem in
open PySem.Spec PySem.AutoSeq1 in
theorem extT_meets (l : PySem.Addr) (xs0 : Array PySem.Value) (n : Nat) (b : PySem.Addr) (ys : Array PySem.Value) (m : Nat) (od : Option PySem.Addr) (sl : Array (Option PySem.Value)) (c0 : ¬(!xs0.isEmpty && Builtin.List.listTooLong (xs0.size + ys.size)) = true) (c1 : xs0.size ≤ sizeLine) (c2 : xs0.size + ys.size ≤ sizeLine + 1) :
    Meets (Builtin.«list.extend» ⟨[.ref l, .ref b], []⟩) (fun _ R s => s.heap.get? l = some { cls := .type "list", dict := none, data := .seq xs0 n, slots := #[] } ∧ s.heap.get? b = some { cls := .type "tuple", dict := od, data := .seq ys m, slots := sl } ∧ R (.ok (.ret Value.none)) { s with heap := s.heap.update l (Obj.mapSeq fun x => x ++ ys), toks := s.toks }) :=
  .of_wp fun prog w A R s h => by
    obtain ⟨hp, g, d, tk, os⟩ := s
    obtain ⟨hl, hb, h⟩ := h
    have f1 := idx_int
    have f2 := sub_tuple_tuple
    have f3 := sub_list_list
    have f4 := sub_tuple_list
    have f5 := sub_list_tuple
    have hz' : (xs0 ++ ys).size ≤ sizeLine + 1 := by
      rw [Array.size_append]
      exact c2
    wp_walk using (wpAny_updateSeq hl rfl (hz := c1) (_hz' := hz')), wpAny_loadPart' hl, wpAny_loadPart' hb
    exact ⟨_, rfl, h⟩
def rExtT (K : Frag) : V → List V → Hp → VK → Prop := fun x vs H Q => ∃ l b xs zs, x = .ref l ∧ vs = [.ref b] ∧ H l = some (.lst xs) ∧ SqT K H b zs ∧ xs.length + zs.length ≤ PySem.sizeLine ∧ Q .non (upd H l (.lst (xs ++ zs)))
theorem mt_extT {X : Cx} : MtM X "list.extend" (rExtT X.K) := by
  intro pins s σ H x vs v us Q I rx rv h
  obtain ⟨l, b, xs, zs, rfl, rfl, hH, hB, hz, q⟩ := h
  cases rx
  obtain ⟨u, rfl, ru⟩ := rv.one
  cases ru
  obtain ⟨z, its, n, r, hl, e⟩ := I.lstM hH
  obtain ⟨its2, r2, ⟨o2, e2, ec, m, ed⟩, hz2⟩ := I.tuple hB
  obtain ⟨oc, od, dd, sl⟩ := o2
  cases ec
  cases ed
  have hl2 := r2.length
  have hsz : its.toArray.size + its2.toArray.size ≤ PySem.sizeLine := by rw [List.size_toArray, List.size_toArray]; omega
  have hlong : ¬ (!its.toArray.isEmpty && PySem.Builtin.List.listTooLong (its.toArray.size + its2.toArray.size)) = true := by
    rw [notLongL hsz, Bool.and_false]
    exact Bool.false_ne_true
  refine PySem.call_meets PySem.F.slot_list_extend ⟨_, e, rfl⟩ PySem.F.entry_list_extend (PySem.F.args_list_extend_2 _ _) (extT_meets l its.toArray n b its2.toArray m od sl hlong (by rw [List.size_toArray]; omega) (by omega)) ⟨e, e2, ?_⟩
  refine ⟨.non, _, I.lset (its' := its ++ its2) hH e (by simp) (r.append r2) ?_, rfl, q⟩
  rw [List.length_append]
  omega
theorem MtM.or {X : Cx} {id : String} {r r' : V → List V → Hp → VK → Prop} (h : MtM X id r) (h' : MtM X id r') : MtM X id (fun x vs H Q => r x vs H Q ∨ r' x vs H Q) := by
  intro pins s σ H x vs v us Q I rx rv q
  rcases q with q | q
  · exact h pins s σ H x vs v us Q I rx rv q
  · exact h' pins s σ H x vs v us Q I rx rv q
/-- a list that we know to be tracked, or a tuple -/
def lookA (h : Heap) (x : RV) : Option (List Val) := match lookL h x with
  | some xs => some xs
  | none => lookT x
def sExtA (i : Nat) (a : E) : S := fun r h => match r[i]? with
  | some (some (.own xs)) => (a r h).then r fun x h1 => match lookA h1 x with
    | some ys => if xs.length + ys.length ≤ line then .nx (r.set i (some (.own (xs ++ ys)))) h1 else .no
    | none => .no
  | _ => .no
section
variable {X : Cx} {W : WX} {w0 : Rw} {M0 : Addr → Prop} {a : Expr} {fa : E}
theorem b_extA (i : Nat) {x : Str} {p1 p2 p3 p4 : Pos} (ha : PEs X W a fa) (hN : X.N[i]? = some x := by rfl) (hv : Vis X.env.scope x := by first | exact Or.inl rfl | exact Or.inr (Or.inl rfl) | exact Or.inr (Or.inr rfl)) (hd : (x == ("__debug__" : Str)) = false := by decide)
    (hcd : (x == ("__classdict__" : Str)) = false := by decide) (hbase : PySem.attributeBase (.Name x p1) "extend" X.env (PySem.eval (.Name x p1) X.env) = PySem.eval (.Name x p1) X.env := by rfl)
    (hfew : ((PySem.backTo p3 (PySem.starEach [a] X.env)).all (fun x => !x.1) && (PySem.backToKw p3 (PySem.keywordEach [] X.env)).all (fun x => x.1.isSome)
      && decide ([a].length + ([] : List PySem.Keyword).length + (if ([] : List PySem.Keyword).isEmpty then 0 else 1) < 30)) = true := by rfl)
    (hline : (p2.endLine == p3.line) = true := by rfl) (hs : PySem.starEach [a] X.env = (false, PySem.eval a X.env) :: PySem.starEach [] X.env := by rfl) (hplain : (PySem.backTo p3 (PySem.starEach [] X.env)).any (·.1) = false := by rfl)
    (hsw : PySem.swapsWith (.Call (.Attribute (.Name x p1) "extend" p2) [a] [] p3) none p4.line X.env = pure false := by rfl) :
    PSs' X W w0 M0 (.Expr (.Call (.Attribute (.Name x p1) "extend" p2) [a] [] p3) p4) (sExtA i fa) :=
  PS.weak (ps_expr (pe_bm PySem.F.plainAttrs_list PySem.F.slot_list_extend PySem.F.type_list_extend (MtM.or mt_extend mt_extT) (pe_var hN hv hd hcd) (pa_cons ha pa_nil hs) hbase hfew hline hs hplain) hsw) fun D σ H ⟨w, r, h, e, R, k⟩ => by
    subst e
    unfold sExtA at k
    split at k
    · rename_i xs hx
      obtain ⟨v, e1, l, ys, e2, s1, s2, s3, s4⟩ := R.rel.sl i _ hx
      subst e2
      refine ⟨.ref l, e1, .inl ⟨rfl, ys, .of s1⟩, w, r, h, rfl, R.rel, SK.cut R (fun x h1 w1 v1 l1 R1 q1 k1 => ?_) k⟩
      have e3 : w1.H l = some (.lst ys) := l1.keep l _ s1 s4
      have s5 := s2.le R.rel.hp l1
      split at k1
      · rename_i zs hy
        split at k1
        · rename_i hz
          unfold lookA at hy
          split at hy
          · rename_i us hu
            cases hy
            obtain ⟨b, us, eb, eb2, qb⟩ := lookL_ok R1 q1 hu
            subst eb
            refine .inl ⟨l, b, ys, us, rfl, rfl, e3, eb2, by rw [← s2.length, ← qb.length]; exact hz, ?_⟩
            exact k1 _ _ ((R.le' l1 R1).upd_own hx e1 (s5.append qb))
          · unfold lookT at hy
            split at hy
            · rename_i ts
              cases hy
              obtain ⟨b, us, eb, eb2, qb⟩ := q1
              subst eb
              refine .inr ⟨l, b, ys, us, rfl, rfl, e3, STup.sqt eb2, by rw [← s2.length, ← qb.length]; exact hz, ?_⟩
              exact k1 _ _ ((R.le' l1 R1).upd_own hx e1 (s5.append qb))
            · cases hy
        · exact k1.elim
      · exact k1.elim
    · exact k.elim
end
end SM

/-! SMRng: list(range(a, b, c)). -/
namespace SM
open PySem (Str Expr Stmt Pos Operator CmpOp Scope)
open L2 hiding St tB tAnd tOr tNot iRng1 iRng2 iRng3
def stV (i k : Int) (n : Nat) : List V := (List.range n).map fun m => V.int (i + (m : Nat) * k)
theorem vals_st {i k : Int} {n : Nat} {acc : Array PySem.Value} (h : PySem.ItemsOf (fun m v => ∃ t, v = .int (i + m * k) t) acc n) : Vals (stV i k n) acc.toList := by
  have e : acc.toList.length = n := by
    rw [Array.length_toList]
    exact h.1
  unfold stV
  rw [← e]
  refine vals_of_get acc.toList _ fun m u hm => ?_
  obtain ⟨t, rfl⟩ := h.2 m u (by rw [← hm, Array.getElem?_toList])
  exact ⟨t, rfl⟩
section
variable {X : Cx} {W : WX} {pos p p1 pos1 : Pos} {a b c : Expr} {fa fb fc : E}
theorem pe_listRg3 {ta : TA} (hcal : X.calm = true) (hgl : Gl X "list") (hml : X.mg "list" = none) (hg : Gl X "range") (hm : X.mg "range" = none) (ha : PA X [a, b, c] ta)
    (hs : PySem.starEach [a, b, c] X.env = (false, PySem.eval a X.env) :: PySem.starEach [b, c] X.env := by rfl) (hpl : (PySem.backTo pos1 (PySem.starEach [b, c] X.env)).any (·.1) = false := by rfl)
    (nl : PySem.starEach [.Call (.Name "range" p1) [a, b, c] [] pos1] X.env = (false, PySem.eval (.Call (.Name "range" p1) [a, b, c] [] pos1) X.env) :: PySem.starEach [] X.env := by rfl) :
    PE X (.Call (.Name "list" p) [.Call (.Name "range" p1) [a, b, c] [] pos1] [] pos) (fun σ H Q => ta σ H fun vs H1 => ∃ (i j k : Int) (n : Nat), vs = [.int i, .int j, .int k] ∧ RgC i j k n ∧ n ≤ PySem.sizeLine ∧ ∀ q, H1 q = none → Q (.ref q) (upd H1 q (.lst (stV i k n)))) := by
  refine ⟨fun pins s σ H Q I h => ?_⟩
  refine PyProof.Rows.Call_ (ld_blt I hgl hml PyProof.Rows.boot_list (PyProof.Rows.callWith_type1 (PyProof.Rows.args_cons ?_ nl) nl))
  refine PyProof.Rows.Call_ (ld_blt I hg hm PyProof.Rows.boot_range (PyProof.Rows.callWith_type1 (thn (ha.run pos1 pins s σ H _ I h) fun us s1 ⟨vs, H1, I1, r1, q1⟩ => ?_) hs hpl))
  obtain ⟨i, j, k, n, e, ⟨c0, c1, c2, c3⟩, hn, q⟩ := q1
  subst e
  cases r1 with
  | cons r rr =>
    cases rr with
    | cons r' rr =>
      cases rr with
      | cons r'' rr =>
        cases rr
        obtain ⟨t, rfl⟩ := r
        obtain ⟨t', rfl⟩ := r'
        obtain ⟨t'', rfl⟩ := r''
        refine PySem.call_range_3 c0 ?_ (.inl (PyProof.noPylong_small c1))
        refine PyProof.Rows.args_nil ?_
        have I2 : Inv X pins σ H1 { s1 with heap := s1.heap.push { cls := .type "range", data := .fields #[.int i t, .int j t', .int k t''] } } := I1.kept (t' := s1.toks) fun b o e => PySem.Heap.get?_push_of_some _ e
        refine PySem.call_list_range (n := n) (I2.ok.hd hcal) (PySem.IsRange.new _ _ _ _ _ _ _) c2 c3 hn fun h' tk acc c' hk e' hi => ?_
        refine ⟨.ref _, upd H1 _ (.lst (stV i k n)), I2.laid hk (Nat.le_refl _) ⟨?_, acc.toList, c', vals_st hi, ?_⟩, rfl, q _ (I2.hok.fresh (Nat.le_refl _))⟩
        · unfold stV
          rw [List.length_map, List.length_range]
          exact hn
        · rw [Array.toArray_toList]
          exact e'
end
def eLR3 (a b c : E) : E := fun r h => (a r h).bind fun x h1 => (b r h1).bind fun y h2 => (c r h2).bind fun z h3 => match x, y, z with
  | .v (.int i), .v (.int j), .v (.int k) => if k ≠ 0 ∧ k.natAbs < 1073741824 ∧ PySem.Builtin.Range.small i j k = true ∧ 0 ≤ PySem.Builtin.Range.rangeSize i j k ∧ (PySem.Builtin.Range.rangeSize i j k).toNat ≤ line then .ok (.own (stepTo i k (PySem.Builtin.Range.rangeSize i j k).toNat)) h3 else .no
  | _, _, _ => .no
theorem rv_step {K : Frag} {w : Rw} (c : Int) : ∀ (n : Nat) (lo : Int), RVals K w (stepTo lo c n) (stV lo c n)
  | 0, lo => by
    unfold stepTo
    rfl
  | n + 1, lo => by
    unfold stepTo stV
    rw [List.range_succ_eq_map, List.map_cons, List.map_map]
    refine ⟨_, _, rfl, by rw [show lo + ((0 : Nat) : Int) * c = lo by rw [show ((0 : Nat) : Int) = 0 from rfl, Int.zero_mul, Int.add_zero]]; rfl, ?_⟩
    have := rv_step (K := K) (w := w) c n (lo + c)
    unfold stV at this
    have e : (fun i : Nat => V.int (lo + c + (i : Nat) * c)) = (fun i : Nat => V.int (lo + (i : Nat) * c)) ∘ Nat.succ := by
      funext i
      show V.int _ = V.int _
      congr 1
      show lo + c + (i : Int) * c = lo + ((i + 1 : Nat) : Int) * c
      rw [show ((i + 1 : Nat) : Int) = (i : Int) + 1 by omega, Int.add_mul]
      omega
    rw [e] at this
    exact this
section
variable {X : Cx} {W : WX} {pos p p1 pos1 : Pos} {a b c : Expr} {fa fb fc : E}
theorem s_listRg3 (hcal : X.calm = true) (hgl : Gl X "list") (hml : X.mg "list" = none) (hg : Gl X "range") (hm : X.mg "range" = none) (ha : PEs X W a fa) (hb : PEs X W b fb) (hc : PEs X W c fc)
    (hs : PySem.starEach [a, b, c] X.env = (false, PySem.eval a X.env) :: PySem.starEach [b, c] X.env := by rfl) (hs2 : PySem.starEach [b, c] X.env = (false, PySem.eval b X.env) :: PySem.starEach [c] X.env := by rfl) (hs3 : PySem.starEach [c] X.env = (false, PySem.eval c X.env) :: PySem.starEach [] X.env := by rfl)
    (hpl : (PySem.backTo pos1 (PySem.starEach [b, c] X.env)).any (·.1) = false := by rfl)
    (nl : PySem.starEach [.Call (.Name "range" p1) [a, b, c] [] pos1] X.env = (false, PySem.eval (.Call (.Name "range" p1) [a, b, c] [] pos1) X.env) :: PySem.starEach [] X.env := by rfl) :
    PEs X W (.Call (.Name "list" p) [.Call (.Name "range" p1) [a, b, c] [] pos1] [] pos) (eLR3 fa fb fc) :=
  PE.weak (pe_listRg3 hcal hgl hml hg hm (pa_cons ha (pa_cons hb (pa_cons hc pa_nil hs3) hs2) hs) hs hpl nl) fun σ H Q ⟨w, r, h, e, R, k⟩ => by
    subst e
    refine ⟨w, r, h, rfl, R, EK.cut (fun x h1 w1 v1 l1 R1 q1 k1 => ?_) k⟩
    refine ⟨w1, r, h1, rfl, R.le l1 R1, EK.cut (fun y h2 w2 v2 l2 R2 q2 k2 => ?_) k1⟩
    refine ⟨w2, r, h2, rfl, R.le (l1.trans l2) R2, EK.cut (fun z h3 w3 v3 l3 R3 q3 k3 => ?_) k2⟩
    split at k3
    · rename_i i j c
      have e1 : v1 = .int i := q1
      have e2 : v2 = .int j := q2
      have e3 : v3 = .int c := q3
      subst e1 e2 e3
      split at k3
      · rename_i cc
        exact ⟨i, j, c, _, rfl, ⟨cc.1, cc.2.1, cc.2.2.1, (Int.toNat_of_nonneg cc.2.2.2.1).symm⟩, cc.2.2.2.2, fun t ht => k3 (w3.newL t _) _ (Le.newL ht R3) (R3.newL ht) (res_newL R3 ht (rv_step _ _ _))⟩
      · exact k3.elim
    · exact k3.elim
end
end SM

/-! SMSetSl: xs[a:b] = ys. -/
namespace SM
open PySem (Str Expr Stmt Pos Operator CmpOp Scope)
open L2 hiding St tB tAnd tOr tNot iRng1 iRng2 iRng3
/-- a list other than one that is only read -/
def lookN (h : Heap) : RV → Option (List Val)
  | .v (.ro vs) => some vs
  | .own vs => some vs
  | .v (.obj n) => match h[n]? with
    | some (.lst vs) => some vs
    | _ => none
  | _ => none
def sSetSl (i : Nat) (lo hi a : E) : S := fun r h => (a r h).then r fun x h1 => match r[i]? with
  | some (some (.own xs)) => (lo r h1).then r fun l h2 => match l with
    | .v (.int l) => (hi r h2).then r fun u h3 => match u with
      | .v (.int u) => match lookN h3 x with
        | some ys => if 0 ≤ l ∧ l ≤ u ∧ u ≤ xs.length ∧ xs.length + ys.length ≤ line then .nx (r.set i (some (.own (xs.take l.toNat ++ ys ++ xs.drop u.toNat)))) h3 else .no
        | none => .no
      | _ => .no
    | _ => .no
  | _ => .no
section
variable {X : Cx} {W : WX} {w0 : Rw} {M0 : Addr → Prop} {pos p1 p2 p3 : Pos} {a o lo hi : Expr} {fa fl fu : E}
theorem pg_slc {to : TE} {tl th : TO} (ho : PE X o to) (hl : PO X (some lo) tl) (hh : PO X (some hi) th)
    (hg : ∀ v, PySem.assign (.Subscript o (.Slice (some lo) (some hi) none p3) p2) X.env v = (do
      let ov ← PySem.holding [v] (PySem.eval o X.env)
      let iv ← PySem.holding [v, ov] (PySem.eval (.Slice (some lo) (some hi) none p3) X.env)
      PySem.standAt p2
      PySem.holding [v, ov, iv] (PySem.setItem ov iv v)
      PySem.release [iv, v, ov] []) := by intro _; rfl) :
    PG X (.Subscript o (.Slice (some lo) (some hi) none p3) p2) (fun v σ H Q => to σ H fun x H1 => tl σ H1 fun l H2 => th σ H2 fun u H3 => ∃ p b xs ys a c, x = .ref p ∧ v = .ref b ∧ l = some a ∧ u = some c ∧ H3 p = some (.lst xs) ∧ H3 b = some (.lst ys) ∧ p ≠ b ∧ 0 ≤ a ∧ a ≤ c ∧ c ≤ xs.length ∧ xs.length + ys.length ≤ PySem.sizeLine ∧ Q σ (upd H3 p (.lst (xs.take a.toNat ++ ys ++ xs.drop c.toNat)))) := by
  refine ⟨fun pins s σ H v u Q I r h => ?_⟩
  rw [hg]
  refine PySem.wpAny_bind (PySem.wpAny_holding (thn (ho.run pins s σ H _ I h) fun ov s1 ⟨x, H1, I1, r1, q1⟩ => ?_))
  refine PySem.wpAny_bind (PySem.wpAny_holding (PySem.wpAny_Slice (thn (hl.run pins s1 σ H1 _ I1 q1) fun vl s2 ⟨l, H2, I2, pl, q2⟩ => thn (hh.run pins s2 σ H2 _ I2 q2) fun vu s3 ⟨u', H3, I3, pu, q3⟩ => ?_)))
  obtain ⟨p, b, xs, ys, a, c, e1, e2, e3, e4, hp, hb, hne, h0, hac, hc, hz, q⟩ := q3
  subst e1 e2 e3 e4
  cases r1
  cases r
  rw [PySem.evalPart_none]
  refine PySem.wpAny_pure ?_
  have I4 : Inv X pins σ H3 { s3 with heap := s3.heap.push { cls := .type "slice", data := .fields #[vl, vu, .none] } } := I3.kept (t' := s3.toks) fun b ob q => PySem.Heap.get?_push_of_some _ q
  have ra : RelV (.int a) vl := by
    cases pl with
    | int i t => exact ⟨t, rfl⟩
  have rc : RelV (.int c) vu := by
    cases pu with
    | int i t => exact ⟨t, rfl⟩
  refine PySem.wpAny_bind (PySem.wpAny_standAt (PySem.wpAny_bind (PySem.wpAny_holding (set_slice I4 hp hb hne (PySem.Heap.IsSliceOf.new ..) ra rc h0 hac hc hz fun s5 I5 => ?_))))
  exact PySem.wpAny_release ⟨σ, _, I5, q⟩
theorem lookN_ok {K : Frag} {mg : Mg} {w w0 : Rw} {h : Heap} {x : RV} {v : V} {xs : List Val} (R : RHp K mg w h) (q : RRes K w0 w x v) (e : lookN h x = some xs) {l : Addr} {o : HO} (hl : w0.H l = some o) (hP : w.P l) (hu : w.out l) : ∃ a ys, v = .ref a ∧ w.H a = some (.lst ys) ∧ RVals K w xs ys ∧ l ≠ a := by
  cases x with
  | own vs =>
    cases e
    obtain ⟨a, ys, e1, e0, e2, q, _, _⟩ := q
    exact ⟨a, ys, e1, e2, q, ne_of_none hl e0⟩
  | view vs => cases e
  | v y =>
    cases y with
    | ro vs =>
      cases e
      obtain ⟨a, ys, e1, s, q⟩ := q
      exact ⟨a, ys, e1, s.1, q, fun z => s.2 (z ▸ hP)⟩
    | obj n =>
      obtain ⟨hk, e1⟩ := q
      have e : (match h[n]? with
        | some (.lst vs) => some vs
        | _ => none) = some xs := e
      split at e
      · rename_i vs hv
        cases e
        obtain ⟨ys, e2, q⟩ := R.obj n _ hv
        exact ⟨_, ys, e1, e2, q, fun z => hu n hk z.symm⟩
      · cases e
    | _ => cases e
theorem b_setSl (i : Nat) {x : Str} (ha : PEs X W a fa) (hl : PEs X W lo fl) (hh : PEs X W hi fu) (hN : X.N[i]? = some x := by rfl) (hv : Vis X.env.scope x := by first | exact Or.inl rfl | exact Or.inr (Or.inl rfl) | exact Or.inr (Or.inr rfl)) (hd : (x == ("__debug__" : Str)) = false := by decide)
    (hcd : (x == ("__classdict__" : Str)) = false := by decide)
    (hs : PySem.swapsWithSole [.Subscript (.Name x p1) (.Slice (some lo) (some hi) none p3) p2] a pos.line X.env = pure false := by rfl) (hw : PySem.swappedStores [.Subscript (.Name x p1) (.Slice (some lo) (some hi) none p3) p2] a X.env = pure none := by rfl)
    (h1 : (PySem.assignEach [.Subscript (.Name x p1) (.Slice (some lo) (some hi) none p3) p2] X.env).map (·.2) = [PySem.assign (.Subscript (.Name x p1) (.Slice (some lo) (some hi) none p3) p2) X.env] := by rfl)
    (hg : ∀ v, PySem.assign (.Subscript (.Name x p1) (.Slice (some lo) (some hi) none p3) p2) X.env v = (do
      let ov ← PySem.holding [v] (PySem.eval (.Name x p1) X.env)
      let iv ← PySem.holding [v, ov] (PySem.eval (.Slice (some lo) (some hi) none p3) X.env)
      PySem.standAt p2
      PySem.holding [v, ov, iv] (PySem.setItem ov iv v)
      PySem.release [iv, v, ov] []) := by intro _; rfl) :
    PSs' X W w0 M0 (.Assign [.Subscript (.Name x p1) (.Slice (some lo) (some hi) none p3) p2] a pos) (sSetSl i fl fu fa) :=
  PS.weak (ps_asg ha (pg_slc (pe_var hN hv hd hcd) (po_some hl) (po_some hh) hg) hs hw h1) fun D σ H ⟨w, r, h, e, R, k⟩ => by
    subst e
    refine ⟨w, r, h, rfl, R.rel, SK.cut R (fun x h1 w1 v1 l1 R1 q1 k1 => ?_) k⟩
    split at k1
    · rename_i xs hx
      obtain ⟨v, e1, l, ys, e2, s1, s2, s3, s4⟩ := R.rel.sl i _ hx
      subst e2
      refine ⟨.ref l, e1, w1, r, h1, rfl, R.rel.le l1 R1, SK.cut (R.le' l1 R1) (fun lv h2 w2 v2 l2 R2 q2 k2 => ?_) k1⟩
      split at k2
      · rename_i lo
        refine ⟨lo, q2, w2, r, h2, rfl, R.rel.le (l1.trans l2) R2, SK.cut (R.le' (l1.trans l2) R2) (fun uv h3 w3 v3 l3 R3 q3 k3 => ?_) k2⟩
        split at k3
        · rename_i hi
          refine ⟨hi, q3, ?_⟩
          split at k3
          · rename_i zs hz
            split at k3
            · rename_i hc
              have l13 := (l1.trans l2).trans l3
              have q13 := (q1.le R1 l2).le R2 l3
              have s5 := s2.le R.rel.hp l13
              have e3 := l13.keep l _ s1 s4
              obtain ⟨b, us, eb, eb2, qb, hne⟩ := lookN_ok R3 q13 hz s1 ((l13.P l _ s1).mpr s3) (l13.out s1 s4)
              subst eb
              have hlen := s5.length
              have hlen2 := qb.length
              refine ⟨l, b, ys, us, lo, hi, rfl, rfl, rfl, rfl, e3, eb2, hne, hc.1, hc.2.1, by rw [← hlen]; exact hc.2.2.1, by rw [← hlen, ← hlen2]; exact hc.2.2.2, ?_⟩
              exact k3 _ _ ((R.le' l13 R3).upd_own hx e1 (((s5.take _).append qb).append (s5.drop _)))
            · exact k3.elim
          · exact k3.elim
        · exact k3.elim
      · exact k2.elim
    · exact k1.elim
end
end SM

/-! SMExc: raise, try .. except. -/
namespace SM
open PySem (Str Expr Stmt Pos Operator CmpOp Scope)
open L2 hiding St tB tAnd tOr tNot iRng1 iRng2 iRng3
abbrev veMro : List PySem.Value := [.type "ValueError", .type "Exception", .type "BaseException", .type "object"]
/-- an exception class of the text over ValueError, without own __init__ -/
structure Xc (K : Frag) (mg : Mg) (x : Str) : Prop where
  ex : ∃ C, mg x = some (.ref C) ∧ PySem.W.excIn K C veMro "ValueError.__new__" = true ∧ PySem.W.keepIn K (.ref C) = true ∧ PySem.W.subIn K (.ref C) (.type "BaseException") = some true ∧ PySem.W.typeIn K (.ref C) = some (.type "type")
section
variable {X : Cx} {W : WX} {w0 : Rw} {M0 : Addr → Prop} {x : Str} {p pos pos' : Pos}
theorem pmk_none {C : Addr} (q : PySem.W.excIn X.K C veMro "ValueError.__new__" = true) (gC : X.mg x = some (.ref C)) (kC : PySem.W.keepIn X.K (.ref C) = true) (r : Raises X (.ref C)) (hg : Gl X x) (hdb : (x == ("__debug__" : Str)) = false := by decide) :
    PMk X (.Call (.Name x p) [] [] pos) (fun _ H Q => Q (.ref C) none H) := by
  intro pins s σ H Q I h
  refine PySem.wpAny_Call_Name_kw (ld_glob I hg gC ?_ hdb)
  refine PySem.W.callWith_K0 I.kIn kC ?_
  obtain ⟨bm, N, nm, qn, bs, hdct, sn, sub, ab, col, dd, k0, k1, k2, k3, k5, mN, hC, hN, hni, T⟩ := exc_obj I.kIn q
  refine PySem.wpAny_call_exc_subT (rest := []) PySem.F.excBase_ValueError T hC hN hni (fun h' e hm => ?_) (by show 0 ≤ PySem.sizeLine; exact Nat.zero_le _)
  exact mk_of I hm r h (I.hok.gone hm.new)
def sRaise (x : Str) : S := fun r h => .ex ⟨x, []⟩ r h
theorem b_raise (c : Xc X.K X.mg x) (hc : X.calm = true) (tk : Takes X W) (hg : Gl X x := by rfl) (hdb : (x == ("__debug__" : Str)) = false := by decide) : PSs' X W w0 M0 (.Raise (some (.Call (.Name x p) [] [] pos)) none pos') (sRaise x) := by
  obtain ⟨C, gC, q, kC, sC, tC⟩ := c.ex
  refine PS.weak (ps_raise hc tk (pmk_none q gC kC (raises_own sC tC) hg hdb)) fun D σ H ⟨w, r, h, e, R, k⟩ => ?_
  subst e
  exact k w σ (.ref C) none R ⟨C, rfl, gC, rfl⟩
end
/-! ### try -/
section
variable {K : Frag} {mg : Mg} {w w0 : Rw} {M0 : Addr → Prop} {r : Env} {h : Heap} {σ : L2.St}
theorem owns_clear {i : Nat} {y : Option V} {b : Addr} (o : owns (r.set i none) (σ.set i y) b) : owns r σ b := by
  obtain ⟨j, xs, e1, e2⟩ := o
  by_cases hj : i = j
  · subst hj
    rw [List.getElem?_set] at e1
    split at e1
    · split at e1
      · cases e1
      · cases e1
    · rename_i hn
      exact absurd rfl hn
  · rw [List.getElem?_set_ne hj] at e1 e2
    exact ⟨j, xs, e1, e2⟩
theorem RelS.clear (R : RelS K mg w0 M0 w r h σ) (i : Nat) (y : Option V) : RelS K mg w0 M0 w (r.set i none) h (σ.set i y) := by
  have back : ∀ {j : Nat} {z : RV}, (r.set i none)[j]? = some (some z) → i ≠ j ∧ r[j]? = some (some z) := by
    intro j z e
    by_cases hj : i = j
    · subst hj
      rw [List.getElem?_set] at e
      split at e
      · split at e <;> cases e
      · rename_i hn
        exact absurd rfl hn
    · rw [List.getElem?_set_ne hj] at e
      exact ⟨hj, e⟩
  refine ⟨⟨R.rel.hp, by rw [List.length_set, List.length_set]; exact R.rel.len, fun j z e => ?_, fun j k xs ys a e1 e2 e3 e4 => ?_⟩, R.le, fun a o => R.fr a (owns_clear o)⟩
  · obtain ⟨hj, e⟩ := back e
    obtain ⟨u, e1, s⟩ := R.rel.sl j z e
    refine ⟨u, by rw [List.getElem?_set_ne hj]; exact e1, ?_⟩
    cases z with
    | v z => exact s
    | own ys => exact s
    | view ys =>
      obtain ⟨a, zs, e2, ⟨s1, s2⟩, q2⟩ := s
      exact ⟨a, zs, e2, ⟨s1, fun o => s2 (owns_clear o)⟩, q2⟩
  · obtain ⟨j1, f1⟩ := back e1
    obtain ⟨j2, f2⟩ := back e2
    rw [List.getElem?_set_ne j1] at e3
    rw [List.getElem?_set_ne j2] at e4
    exact R.rel.own1 j k xs ys a f1 f2 e3 e4
end
/-- which classes an except clause takes -/
abbrev Hit := List (Str × Bool)
def HitOk (K : Frag) (mg : Mg) (hit : Hit) (c : PySem.Value) : Prop := ∀ y b C, hit.lookup y = some b → mg y = some (.ref C) → PySem.W.exmOne K (.ref C) c = some b
def SO.clear (i : Nat) : SO → SO
  | .nx r h => .nx (r.set i none) h
  | .rt x h => .rt x h
  | .bk r h => .bk (r.set i none) h
  | .ct r h => .ct (r.set i none) h
  | .ex _ _ _ => .no
  | .no => .no
/-- whatever the exception's place is -/
noncomputable def allA (f : Nat → Nat → SO) : SO := open Classical in if h : ∃ o, ∀ a dx, f a dx = o then Classical.choose h else .no
theorem allA_eq {f : Nat → Nat → SO} {o : SO} (h : ∀ a dx, f a dx = o) : allA f = o := by
  have he : ∃ o, ∀ a dx, f a dx = o := ⟨o, h⟩
  unfold allA
  rw [dif_pos he]
  exact (Classical.choose_spec he 0 0).symm.trans (h 0 0)
theorem allA_at {f : Nat → Nat → SO} (h : allA f ≠ .no) (a dx : Nat) : f a dx = allA f := by
  unfold allA at h ⊢
  by_cases he : ∃ o, ∀ a dx, f a dx = o
  · rw [dif_pos he]
    exact Classical.choose_spec he a dx
  · rw [dif_neg he] at h
    exact absurd rfl h
noncomputable def sTryAs (i : Nat) (hit : Hit) (b : S) (su : Exn → Nat → Nat → S) : S := fun r h => match b r h with
  | .ex e r1 h1 => match hit.lookup e.cls with
    | some true => if i < r1.length then allA fun a dx => (su e a dx (r1.set i (some (.v (.err a dx (e.args.take 1))))) h1).clear i else .no
    | some false => .ex e r1 h1
    | none => .no
  | o => o
def SO.noEx : SO → SO
  | .ex _ _ _ => .no
  | o => o
def sTry (hit : Hit) (b : S) (su : Exn → S) : S := fun r h => match b r h with
  | .ex e r1 h1 => match hit.lookup e.cls with
    | some true => (su e r1 h1).noEx
    | some false => .ex e r1 h1
    | none => .no
  | o => o
/-- what the suite starts from -/
def ExAt (K : Frag) (mg : Mg) (ex : Exn) (cls : PySem.Value) : Prop := ∃ C, cls = .ref C ∧ mg ex.cls = some (.ref C)
def tSu (K : Frag) (mg : Mg) (w0 : Rw) (M0 : Addr → Prop) (su : Exn → S) : Addr → PySem.Value → Option Addr → TS := fun _ cls d D σ H => ∃ ex, ExAt K mg ex cls ∧ (ex.args = [] → d = none) ∧ tS K mg W0 w0 M0 (su ex) D σ H
theorem rexn_at {K : Frag} {mg : Mg} {w : Rw} {e : Exn} {cls : PySem.Value} {d : Option Addr} (q : RExn K mg w e cls d) : ExAt K mg e cls ∧ (e.args = [] → d = none) := by
  obtain ⟨C, e1, e2, q⟩ := q
  refine ⟨⟨C, e1, e2⟩, fun z => ?_⟩
  rw [z] at q
  exact q
section
variable {X : Cx} {W : WX} {w0 : Rw} {M0 : Addr → Prop} {x n : Str} {c : PySem.Value} {i : Nat} {body suite : List Stmt} {b₀ : Stmt} {np pos pos' : Pos} {fb : S} {su : Exn → S} {hit : Hit}
theorem b_try (hs : X.stack = X.env :: X.outer) (hf : X.env.frame = some X.env.locals) (hc : Names X x c) (tk : Takes X W) (hh : HitOk X.K X.mg hit c)
    (hb : ∀ (W' : WX) (pn : List (Addr × PySem.Obj)) (xe : PySem.Value → PySem.Shared → Prop), Takes (X.tr pn xe) W' → PySem.PassesOwn (PySem.model X.prog X.w) X.A X.env xe → PBs (X.tr pn xe) W' w0 M0 body fb)
    (hsu : ∀ (a : Addr) (oe : PySem.Obj) (cls : PySem.Value) (d : Option Addr) (pn : List (Addr × PySem.Obj)) (ex : Exn), Zc cls d oe → (∃ vs, oe.data = .fields vs) → ExAt X.K X.mg ex cls → (ex.args = [] → d = none) → PBs (X.suite a ((a, oe) :: pn)) W0 w0 M0 (b₀ :: suite) (su ex)) :
    PSs' X W w0 M0 (.Try body [.ExceptHandler (some (.Name x np)) none (b₀ :: suite) pos'] [] [] pos) (sTry hit fb su) := by
  refine PS.weak (ps_try_only hs hf hc tk (tb := fun W' => tS X.K X.mg W' w0 M0 fb) (ts := tSu X.K X.mg w0 M0 su) hb fun a oe cls d pn hz hfl => ⟨fun pins s σ H D I ⟨ex, e1, e2, q⟩ => (hsu a oe cls d pn ex hz hfl e1 e2).run pins s σ H D I q⟩) fun D σ H ⟨w, r, h, e, R, k⟩ => ?_
  subst e
  refine ⟨w, r, h, rfl, R, ?_⟩
  unfold sTry at k
  cases hbr : fb r h with
  | ex e r1 h1 =>
    rw [hbr] at k
    dsimp only at k
    intro w1 σ1 cls d R1 q1
    obtain ⟨ea, ed⟩ := rexn_at q1
    obtain ⟨C, rfl, gC⟩ := id ea
    cases hl : hit.lookup e.cls with
    | none => rw [hl] at k; exact k.elim
    | some b =>
      rw [hl] at k
      refine ⟨b, hh _ _ _ hl gC, fun hbt a ha => ?_, fun hbf => ?_⟩
      · subst hbt
        refine ⟨e, ea, ed, w1, r1, h1, rfl, R1, ?_⟩
        have k : SK X.K X.mg W w0 M0 D ((su e r1 h1).noEx) := k
        cases ho : su e r1 h1 <;> rw [ho] at k
        · exact k
        · exact k
        · exact k
        · exact k
        · exact k.elim
        · exact k
      · subst hbf
        exact k w1 σ1 _ d R1 q1
  | nx r1 h1 => rw [hbr] at k; exact k
  | rt y h1 => rw [hbr] at k; exact k
  | bk r1 h1 => rw [hbr] at k; exact k
  | ct r1 h1 => rw [hbr] at k; exact k
  | no => rw [hbr] at k; exact k
theorem rexn_err {K : Frag} {mg : Mg} {w : Rw} {e : Exn} {cls : PySem.Value} {d : Option Addr} (a : Addr) (q : RExn K mg w e cls d) : RVal K w (.err a (d.getD 0) (e.args.take 1)) (.ref a) := by
  obtain ⟨C, e1, e2, q⟩ := q
  cases ha : e.args with
  | nil => exact ⟨rfl, [], fun y t z => (by cases z), rfl⟩
  | cons x xs =>
    rw [ha] at q
    obtain ⟨dx, v, e3, e4, e5, q⟩ := q
    refine ⟨rfl, [v], fun y t z => ?_, v, [], rfl, q, rfl⟩
    cases z
    rw [e3]
    exact ⟨e4, e5⟩
theorem b_tryAs (hs : X.stack = X.env :: X.outer) (hf : X.env.frame = some X.env.locals) (hN : X.N.Nodup) (hi : X.N[i]? = some n) (hln : X.env.kindOf n = some .local) (hc : Names X x c) (tk : Takes X W) (hh : HitOk X.K X.mg hit c) {su : Exn → Nat → Nat → S}
    (hb : ∀ (W' : WX) (pn : List (Addr × PySem.Obj)) (xe : PySem.Value → PySem.Shared → Prop), Takes (X.tr pn xe) W' → PySem.PassesOwn (PySem.model X.prog X.w) X.A X.env xe → PBs (X.tr pn xe) W' w0 M0 body fb)
    (hsu : ∀ (a : Addr) (oe : PySem.Obj) (cls : PySem.Value) (d : Option Addr) (pn : List (Addr × PySem.Obj)) (ex : Exn), Zc cls d oe → (∃ vs, oe.data = .fields vs) → ExAt X.K X.mg ex cls → (ex.args = [] → d = none) → PBs (X.suite a ((a, oe) :: pn)) W0 w0 M0 (b₀ :: suite) (su ex a (d.getD 0))) :
    PSs' X W w0 M0 (.Try body [.ExceptHandler (some (.Name x np)) (some n) (b₀ :: suite) pos'] [] [] pos) (sTryAs i hit fb su) := by
  refine PS.weak (ps_try_as hs hf hN hi hln hc tk (tb := fun W' => tS X.K X.mg W' w0 M0 fb) (ts := fun a cls d D σ H => ∃ ex, ExAt X.K X.mg ex cls ∧ (ex.args = [] → d = none) ∧ tS X.K X.mg W0 w0 M0 (su ex a (d.getD 0)) D σ H) hb fun a oe cls d pn hz hfl => ⟨fun pins s σ H D I ⟨ex, e1, e2, q⟩ => (hsu a oe cls d pn ex hz hfl e1 e2).run pins s σ H D I q⟩) fun D σ H ⟨w, r, h, e, R, k⟩ => ?_
  subst e
  refine ⟨w, r, h, rfl, R, ?_⟩
  unfold sTryAs at k
  cases hbr : fb r h with
  | ex e r1 h1 =>
    rw [hbr] at k
    dsimp only at k
    intro w1 σ1 cls d R1 q1
    obtain ⟨ea, ed⟩ := rexn_at q1
    obtain ⟨C, rfl, gC⟩ := id ea
    cases hl : hit.lookup e.cls with
    | none => rw [hl] at k; exact k.elim
    | some b =>
      rw [hl] at k
      refine ⟨b, hh _ _ _ hl gC, fun hbt a ha => ?_, fun hbf => ?_⟩
      · subst hbt
        dsimp only at k
        split at k
        case isFalse => exact k.elim
        rename_i hli
        have hno : allA (fun a dx => (su e a dx (r1.set i (some (.v (.err a dx (e.args.take 1))))) h1).clear i) ≠ .no := fun z => by
          rw [z] at k
          exact k.elim
        have k : SK X.K X.mg W w0 M0 D ((su e a (d.getD 0) (r1.set i (some (.v (.err a (d.getD 0) (e.args.take 1))))) h1).clear i) := by
          rw [allA_at hno a (d.getD 0)]
          exact k
        refine ⟨e, ea, ed, w1, _, h1, rfl, R1.set_v (i := i) (rexn_err a q1), ?_⟩
        cases ho : su e a (d.getD 0) (r1.set i (some (.v (.err a (d.getD 0) (e.args.take 1))))) h1 <;> rw [ho] at k
        · exact fun w2 σ2 R2 => k w2 _ (R2.clear i none)
        · exact k
        · exact fun w2 σ2 R2 => k w2 _ (R2.clear i none)
        · exact fun w2 σ2 R2 => k w2 _ (R2.clear i none)
        · exact k.elim
        · exact k
      · subst hbf
        exact k w1 σ1 _ d R1 q1
  | nx r1 h1 => rw [hbr] at k; exact k
  | rt y h1 => rw [hbr] at k; exact k
  | bk r1 h1 => rw [hbr] at k; exact k
  | ct r1 h1 => rw [hbr] at k; exact k
  | no => rw [hbr] at k; exact k
end
/-! ### in the suite -/
/-- which classes an isinstance of a caught error says yes of -/
def KitT (K : Frag) (mg : Mg) (tab : Hit) (cv : PySem.Value) : Prop := ∀ y b D, tab.lookup y = some b → mg y = some (.ref D) → PySem.W.kitOne K (.ref D) cv = some b ∧ ExcC K D
def fErrIs (a : Nat) (ex : Exn) (b : Option Bool) : F1 := fun _ x => match x, b with
  | .v (.err a' _ _), some b => if a' = a ∧ ex.args.isEmpty = true then some (.v (.bool b)) else none
  | _, _ => none
def fErrAt (cs : List Str) (c : Str) (a dx : Nat) : F1 := fun _ x => match x with
  | .v (.err a' dx' (y :: _)) => if a' = a ∧ dx' = dx ∧ c ∈ cs then some (.v y) else none
  | _ => none
/-- an exception's field -/
structure ErrFld (K : Frag) (mg : Mg) (c : Str) : Prop where
  ex : ∃ C, mg c = some (.ref C) ∧ XfC K C ∧ PySem.W.findIn K (.ref C) "at" = some none
section
variable {X : Cx} {W : WX} {a : Addr} {oe : PySem.Obj} {cls : PySem.Value} {d : Option Addr} {pn : List (Addr × PySem.Obj)} {ex : Exn} {tab : Hit} {cv : PySem.Value} {e t : Expr} {fe : E} {p pos : Pos}
theorem errIs_cut {K : Frag} {mg : Mg} {fe : E} {c : V} (hcv : ∀ u, RelV c u → u = cv) (ht : KitT K mg tab cv) {C : Addr} (hC : mg ex.cls = some (.ref C)) (σ : L2.St) (H : Hp) (Q : VK) :
    tE K mg W (e1 (fErrIs a ex (tab.lookup ex.cls)) fe) σ H Q → tE K mg W fe σ H fun x H1 => rIsE K C a [x, c] H1 Q := fun ⟨w, r, h, eH, R, k⟩ => by
  subst eH
  refine ⟨w, r, h, rfl, R, EK.cut (fun x h1 w1 v1 l1 R1 q1 k1 => ?_) k⟩
  obtain ⟨z, ez, kz⟩ := opt_cut k1
  unfold fErrIs at ez
  split at ez
  · rename_i b hb
    split at ez
    · rename_i haa
      obtain ⟨haa, _⟩ := haa
      subst haa
      cases ez
      obtain ⟨ev, _⟩ := q1
      subst ev
      exact ⟨c, cv, b, rfl, hcv, (ht _ _ _ hb hC).1, kz w1 _ (Le.refl w1) R1 rfl⟩
    · cases ez
  · cases ez
/-- isinstance(e, C) of an error without fields, C a class of the text or a built-in one -/
theorem errIs_no {K : Frag} {mg : Mg} {fe : E} (hne : ¬ ex.args = [] ∨ tab.lookup ex.cls = none) {σ : L2.St} {H : Hp} {Q : VK} {Q' : VK} (k : tE K mg W (e1 (fErrIs a ex (tab.lookup ex.cls)) fe) σ H Q) : tE K mg W fe σ H Q' := by
  obtain ⟨w, r, h, eH, R, k⟩ := k
  refine ⟨w, r, h, eH, R, EK.cut (fun x h1 w1 v1 l1 R1 q1 k1 => ?_) k⟩
  obtain ⟨z, ez, kz⟩ := opt_cut k1
  unfold fErrIs at ez
  split at ez
  · rename_i hb
    split at ez
    · rename_i h
      rcases hne with hne | hne
      · exact absurd (List.isEmpty_iff.mp h.2) hne
      · rw [hne] at hb
        cases hb
    · cases ez
  · cases ez
theorem s_exIs {c : Str} {cp : Pos} {C2 : Addr} (hz : Zc cls d oe) (hf : ∃ vs, oe.data = .fields vs) (hE : ExAt X.K X.mg ex cls) (hed : ex.args = [] → d = none) (hm2 : X.mg c = some (.ref C2)) (ht : KitT X.K X.mg tab (.ref C2))
    (ha : PEs (X.suite a ((a, oe) :: pn)) W e fe) (hm : X.mg "isinstance" = none) (hg : Gl (X.suite a ((a, oe) :: pn)) "isinstance" := by rfl) (hg2 : Gl (X.suite a ((a, oe) :: pn)) c := by rfl) (hdb : (c == ("__debug__" : Str)) = false := by decide)
    (hs : PySem.starEach [e, .Name c cp] (X.suite a ((a, oe) :: pn)).env = (false, PySem.eval e (X.suite a ((a, oe) :: pn)).env) :: PySem.starEach [.Name c cp] (X.suite a ((a, oe) :: pn)).env := by rfl) : PEs (X.suite a ((a, oe) :: pn)) W (.Call (.Name "isinstance" p) [e, .Name c cp] [] pos) (e1 (fErrIs a ex (tab.lookup ex.cls)) fe) := by
  obtain ⟨C, rfl, hC⟩ := hE
  by_cases hx : ex.args = [] ∧ tab.lookup ex.cls ≠ none
  · have hd := hed hx.1
    subst hd
    obtain ⟨b, hb⟩ := Option.ne_none_iff_exists'.mp hx.2
    have hk := (ht _ _ _ hb hC).2
    refine PE.weak (pe_callB (X := X.suite a ((a, oe) :: pn)) (call_isE hk hz hf) hg hm PyProof.Rows.boot_isinstance (pa_cons ha (pa_cons (pe_glob (v := .ref C2) hg2 hm2 rfl hdb) pa_nil) hs) (by decide) (by decide) hs) fun σ H Q k => ?_
    exact errIs_cut (c := .ref C2) (cv := .ref C2) (fun u hu => hu) ht hC σ H Q k
  · have hx : ¬ ex.args = [] ∨ tab.lookup ex.cls = none := by
      by_cases h : ex.args = []
      · right
        cases hb : tab.lookup ex.cls with
        | none => rfl
        | some b => exact absurd ⟨h, by rw [hb]; exact fun z => nomatch z⟩ hx
      · exact .inl h
    refine ⟨fun pins s σ H Q I k => ?_⟩
    have := errIs_no (Q' := fun _ _ => False) hx k
    have := ha.run pins s σ H _ I this
    exact PySem.wpAny_Call_Name_kw (ld_blt I hg hm PyProof.Rows.boot_isinstance (PyProof.Rows.callWith_builtin1 ((pa_cons ha (pa_cons (pe_glob (v := .ref C2) hg2 hm2 rfl hdb) pa_nil) hs).run pos pins s σ H (fun _ _ => False) I (errIs_no hx k) |> fun z => thn z fun us s1 ⟨vs, H1, I1, r1, q1⟩ => q1.elim) hs rfl) (by decide) (by decide))
theorem s_exIsT {c : Str} {cp : Pos} {T : String} (hz : Zc cls d oe) (hf : ∃ vs, oe.data = .fields vs) (hE : ExAt X.K X.mg ex cls) (hed : ex.args = [] → d = none) (hm2 : X.mg c = none) (hv2 : PySem.bootBuiltins c = some (.type T)) (ht : KitT X.K X.mg tab (.type T))
    (ha : PEs (X.suite a ((a, oe) :: pn)) W e fe) (hm : X.mg "isinstance" = none) (hg : Gl (X.suite a ((a, oe) :: pn)) "isinstance" := by rfl) (hg2 : Gl (X.suite a ((a, oe) :: pn)) c := by rfl) (hnn : c ≠ "__name__" := by decide) (hdb : (c == ("__debug__" : Str)) = false := by decide)
    (hs : PySem.starEach [e, .Name c cp] (X.suite a ((a, oe) :: pn)).env = (false, PySem.eval e (X.suite a ((a, oe) :: pn)).env) :: PySem.starEach [.Name c cp] (X.suite a ((a, oe) :: pn)).env := by rfl) : PEs (X.suite a ((a, oe) :: pn)) W (.Call (.Name "isinstance" p) [e, .Name c cp] [] pos) (e1 (fErrIs a ex (tab.lookup ex.cls)) fe) := by
  obtain ⟨C, rfl, hC⟩ := hE
  by_cases hx : ex.args = [] ∧ tab.lookup ex.cls ≠ none
  · have hd := hed hx.1
    subst hd
    obtain ⟨b, hb⟩ := Option.ne_none_iff_exists'.mp hx.2
    have hk := (ht _ _ _ hb hC).2
    refine PE.weak (pe_callB (X := X.suite a ((a, oe) :: pn)) (call_isE hk hz hf) hg hm PyProof.Rows.boot_isinstance (pa_cons ha (pa_cons (pe_bltn (v := .ty T) hg2 hm2 hv2 rfl hnn hdb) pa_nil) hs) (by decide) (by decide) hs) fun σ H Q k => ?_
    exact errIs_cut (c := .ty T) (cv := .type T) (fun u hu => hu) ht hC σ H Q k
  · have hx : ¬ ex.args = [] ∨ tab.lookup ex.cls = none := by
      by_cases h : ex.args = []
      · right
        cases hb : tab.lookup ex.cls with
        | none => rfl
        | some b => exact absurd ⟨h, by rw [hb]; exact fun z => nomatch z⟩ hx
      · exact .inl h
    refine ⟨fun pins s σ H Q I k => ?_⟩
    have := errIs_no (Q' := fun _ _ => False) hx k
    have := ha.run pins s σ H _ I this
    exact PySem.wpAny_Call_Name_kw (ld_blt I hg hm PyProof.Rows.boot_isinstance (PyProof.Rows.callWith_builtin1 ((pa_cons ha (pa_cons (pe_bltn (v := .ty T) hg2 hm2 hv2 rfl hnn hdb) pa_nil) hs).run pos pins s σ H (fun _ _ => False) I (errIs_no hx k) |> fun z => thn z fun us s1 ⟨vs, H1, I1, r1, q1⟩ => q1.elim) hs rfl) (by decide) (by decide))
end
end SM

/-! SMCls: classes of the text, their instances, fields, methods, properties. -/
namespace SM
open PySem (Str Expr Stmt Pos Operator CmpOp Scope)
open L2 hiding St tB tAnd tOr tNot iRng1 iRng2 iRng3
/-! ### an object of ours changes -/
def Rw.updH (w : Rw) (l : Addr) (o : HO) : Rw := { w with H := upd w.H l o }
section
variable {K : Frag} {mg : Mg} {w w0 w1 w2 : Rw} {h h' : Heap} {a : Addr} {M M0 M1 : Addr → Prop} {r : Env} {σ : L2.St} {l : Addr} {u : HO}
theorem STup.updH (hl : w.P l) {b : Addr} {xs : List V} (q : STup K w b xs) : STup K (w.updH l u) b xs := by
  rcases q with ⟨q, p⟩ | q
  · have ne : b ≠ l := fun z => p (z ▸ hl)
    refine .inl ⟨?_, p⟩
    rcases q with q | ⟨o, q⟩
    · exact .inl ((upd_ne ne).trans q)
    · exact .inr ⟨o, (upd_ne ne).trans q⟩
  · exact .inr q
theorem SLst.updH (hl : w.P l) {b : Addr} {xs : List V} (q : SLst K w b xs) : SLst K (w.updH l u) b xs := by
  rcases q with ⟨q, p⟩ | q
  · have ne : b ≠ l := fun z => p (z ▸ hl)
    refine .inl ⟨?_, p⟩
    rcases q with q | ⟨o, q⟩
    · exact .inl ((upd_ne ne).trans q)
    · exact .inr ⟨o, (upd_ne ne).trans q⟩
  · exact .inr q
theorem SRo.updH (hl : w.P l) {b : Addr} {xs : List V} (q : SRo w b xs) : SRo (w.updH l u) b xs := ⟨(upd_ne (show b ≠ l from fun z => q.2 (z ▸ hl))).trans q.1, q.2⟩
mutual
theorem RVal.updH (hl : w.P l) : ∀ {x : Val} {v : V}, RVal K w x v → RVal K (w.updH l u) x v
  | .none, _, q => q
  | .bool _, _, q => q
  | .int _, _, q => q
  | .str _, _, q => q
  | .tup _, _, ⟨a, xs, e, s, q⟩ => ⟨a, xs, e, s.updH hl, RVals.updH hl q⟩
  | .ro _, _, ⟨a, xs, e, s, q⟩ => ⟨a, xs, e, s.updH hl, RVals.updH hl q⟩
  | .scr _, _, ⟨a, xs, e, s, q⟩ => ⟨a, xs, e, s.updH hl, RVals.updH hl q⟩
  | .obj k, _, q => q
  | .err _ _ _, _, ⟨e, zs, s, q⟩ => ⟨e, zs, fun y t z => ⟨(upd_ne fun p => (s y t z).2 (by rw [p]; exact hl)).trans (s y t z).1, (s y t z).2⟩, RVals.updH hl q⟩
theorem RVals.updH (hl : w.P l) : ∀ {xs : List Val} {vs : List V}, RVals K w xs vs → RVals K (w.updH l u) xs vs
  | [], _, q => q
  | _ :: _, _, ⟨y, ys, e, q1, q2⟩ => ⟨y, ys, e, RVal.updH hl q1, RVals.updH hl q2⟩
end
theorem RFs.updH (hl : w.P l) : ∀ {fs : List (Str × Val)} {gs : List (Str × V)}, RFs K w fs gs → RFs K (w.updH l u) fs gs
  | [], _, q => q
  | (_, _) :: _, _, ⟨y, g, e, q1, q2⟩ => ⟨y, g, e, q1.updH hl, RFs.updH hl q2⟩
theorem RKs.updH (hl : w.P l) : ∀ {fs : List (L2.Key × Val)} {gs : List (L2.Key × V)}, RKs K w fs gs → RKs K (w.updH l u) fs gs
  | [], _, q => q
  | (_, _) :: _, _, ⟨y, g, e, q1, q2⟩ => ⟨y, g, e, q1.updH hl, RKs.updH hl q2⟩
theorem RObj.updH (hl : w.P l) {o : HObj} (ha : a ≠ l) (q : RObj K mg w a o) : RObj K mg (w.updH l u) a o := by
  cases o with
  | lst vs =>
    obtain ⟨xs, e, q⟩ := q
    exact ⟨xs, (upd_ne ha).trans e, q.updH hl⟩
  | ins c fs =>
    obtain ⟨C, dx, gs, e, c, q⟩ := q
    exact ⟨C, dx, gs, (upd_ne ha).trans e, c, q.updH hl⟩
  | dct kvs =>
    obtain ⟨gs, e, q⟩ := q
    exact ⟨gs, (upd_ne ha).trans e, q.updH hl⟩
theorem RHp.upd_any {m : Nat} {o o' : HObj} (R : RHp K mg w h) (e : h[m]? = some o) (q : RObj K mg (w.updH (w.io m) u) (w.io m) o') : RHp K mg (w.updH (w.io m) u) (h.set m o') := by
  have hm : m < h.length := (List.getElem?_eq_some_iff.mp e).1
  have hm2 : m < w.n := by rw [← R.len]; exact hm
  have hl : w.P (w.io m) := R.inP m hm2
  refine ⟨by rw [List.length_set]; exact R.len, fun k o f => ?_, R.inj, R.inP, fun b hb => ?_⟩
  · by_cases hk : m = k
    · subst hk
      rw [List.getElem?_set_self hm] at f
      cases f
      exact q
    · rw [List.getElem?_set_ne hk] at f
      have hk2 : k < w.n := by rw [← R.len]; exact (List.getElem?_eq_some_iff.mp f).1
      exact (R.obj k o f).updH hl fun z => hk (R.inj m k hm2 hk2 z.symm)
  · by_cases z : b = w.io m
    · exact ⟨u, by rw [z]; exact upd_same⟩
    · obtain ⟨o, e⟩ := R.ph b hb
      exact ⟨o, (upd_ne z).trans e⟩
theorem Le.upd_any {m : Nat} (hm : m < w.n) : Le w (w.updH (w.io m) u) :=
  ⟨Nat.le_refl _, fun _ _ => rfl, fun b o e q => (upd_ne fun z => q m hm z.symm).trans e, fun b o e => by
    by_cases z : b = w.io m
    · exact ⟨u, by rw [z]; exact upd_same⟩
    · exact ⟨o, (upd_ne z).trans e⟩, fun _ _ _ => Iff.rfl, fun k h1 h2 => absurd h2 (Nat.not_lt.mpr h1)⟩
/-- a field more, or another value in it -/
def putA (f : Str) (v : Val) : List (Str × Val) → List (Str × Val)
  | [] => [(f, v)]
  | (g, x) :: r => if g = f then (g, v) :: r else (g, x) :: putA f v r
theorem RFs.put {f : Str} {x : Val} {v : V} (qx : RVal K w x v) : ∀ {fs : List (Str × Val)} {gs : List (Str × V)}, RFs K w fs gs → RFs K w (putA f x fs) (putF f v gs)
  | [], _, q => by
    have e : _ = [] := q
    subst e
    exact ⟨v, [], rfl, qx, rfl⟩
  | (g, y) :: fs, _, ⟨z, r, e, q1, q2⟩ => by
    subst e
    unfold putA putF
    by_cases hg : g = f
    · rw [if_pos hg, if_pos hg]
      exact ⟨v, r, rfl, qx, q2⟩
    · rw [if_neg hg, if_neg hg]
      exact ⟨z, _, rfl, q1, RFs.put qx q2⟩
theorem RFs.lookN : ∀ {fs : List (Str × Val)} {gs : List (Str × V)} {f : Str}, RFs K w fs gs → fs.lookup f = none → gs.lookup f = none
  | [], _, _, q, _ => by
    have e : _ = [] := q
    subst e
    rfl
  | (g, y) :: fs, _, f, ⟨v, r, e, q1, q2⟩, e2 => by
    subst e
    rw [List.lookup_cons] at e2 ⊢
    cases hb : f == g with
    | true =>
      rw [hb] at e2
      cases e2
    | false =>
      rw [hb] at e2
      exact RFs.lookN q2 e2
theorem res_obj {w0 : Rw} {m : Nat} {v : V} (q : RRes K w0 w (.v (.obj m)) v) : m < w.n ∧ v = .ref (w.io m) := q
end
/-! ### fields -/
/-- a field of a class of the text -/
structure FldOk (K : Frag) (mg : Mg) (c f : Str) : Prop where
  ex : ∃ C, mg c = some (.ref C) ∧ Cls K C ∧ NoAttr K C f
def fFld (cs : List Str) (f : Str) : F1 := fun h x => match x with
  | .v (.obj n) => match h[n]? with
    | some (.ins c fs) => if c ∈ cs then (fs.lookup f).map .v else none
    | _ => none
  | _ => none
/-- o.f = value: the value first -/
def sFldSet (cs : List Str) (f : Str) (o a : E) : S := fun r h => (a r h).then r fun x h1 => match x.keep with
  | some y => (o r h1).then r fun p h2 => match p with
    | .v (.obj m) => match h2[m]? with
      | some (.ins c fs) => if c ∈ cs ∧ fs.length < 1000 then .nx r (h2.set m (.ins c (putA f y fs))) else .no
      | _ => .no
    | _ => .no
  | none => .no
/-- .. a list of one's own, kept in the heap -/
def sFldHp (cs : List Str) (f : Str) (o a : E) : S := fun r h => (a r h).then r fun x h1 => match x with
  | .own xs => (o r (h1 ++ [.lst xs])).then r fun p h2 => match p with
    | .v (.obj m) => match h2[m]? with
      | some (.ins c fs) => if c ∈ cs ∧ fs.length < 1000 then .nx r (h2.set m (.ins c (putA f (.obj h1.length) fs))) else .no
      | _ => .no
    | _ => .no
  | _ => .no
/-- o.f op= value -/
def sFldAug (cs : List Str) (f : Str) (g : F2) (o a : E) : S := fun r h => (o r h).then r fun p h1 => match p with
  | .v (.obj m) => match h1[m]? with
    | some (.ins c fs) => if c ∈ cs then match fs.lookup f with
      | some x => (a r h1).then r fun y h2 => match g h2 (.v x) y with
        | some z => match z.keep with
          | some z => match h2[m]? with
            | some (.ins c' fs') => if c' = c ∧ fs'.length < 1000 then .nx r (h2.set m (.ins c' (putA f z fs'))) else .no
            | _ => .no
          | none => .no
        | none => .no
      | none => .no
      else .no
    | _ => .no
  | _ => .no
section
variable {X : Cx} {W : WX} {w0 : Rw} {M0 : Addr → Prop} {pos pos' : Pos} {a o : Expr} {fa fo : E} {f : Str} {cs : List Str}
theorem ins_at {K : Frag} {mg : Mg} {w : Rw} {h : Heap} {n : Nat} {c : Str} {fs : List (Str × Val)} (R : RHp K mg w h) (e : h[n]? = some (.ins c fs)) (ok : FldOk K mg c f) : ∃ C dx gs, w.H (w.io n) = some (.ins C dx gs) ∧ mg c = some (.ref C) ∧ Cls K C ∧ NoAttr K C f ∧ RFs K w fs gs := by
  obtain ⟨C, dx, gs, e1, e2, q⟩ := R.obj n _ e
  obtain ⟨D, e3, c1, n1⟩ := ok.ex
  rw [e2] at e3
  cases e3
  exact ⟨C, dx, gs, e1, e2, c1, n1, q⟩
theorem s_fld (cs : List Str) (ha : PEs X W a fa) (ok : ∀ c, c ∈ cs → FldOk X.K X.mg c f) (hb : PySem.attributeBase a f X.env (PySem.eval a X.env) = PySem.eval a X.env := by rfl) : PEs X W (.Attribute a f pos) (e1 (fFld cs f) fa) :=
  PE.weak (pe_fld ha hb) (e1_cut (r1 := fun x H Q => ∃ a C dx fs v, x = .ref a ∧ H a = some (.ins C dx fs) ∧ Cls X.K C ∧ NoAttr X.K C f ∧ fs.lookup f = some v ∧ Q v H) fun w w0 h x z vx Q R q e k => by
    unfold fFld at e
    split at e
    · rename_i n
      split at e
      · rename_i c fs hn
        split at e
        · rename_i hc
          cases hl : fs.lookup f with
          | none => rw [hl] at e; cases e
          | some y =>
            rw [hl] at e
            cases e
            obtain ⟨hk, ev⟩ := res_obj q
            subst ev
            obtain ⟨C, dx, gs, e1, _, c1, n1, qf⟩ := ins_at R hn (ok c hc)
            obtain ⟨v, e2, q2⟩ := qf.look hl
            exact ⟨_, C, dx, gs, v, rfl, e1, c1, n1, e2, k w v (Le.refl w) R q2⟩
        · cases e
      · cases e
    · cases e)
theorem b_fldSet (cs : List Str) (ha : PEs X W a fa) (ho : PEs X W o fo) (ok : ∀ c, c ∈ cs → FldOk X.K X.mg c f) (hs : PySem.swapsWith a (some (.Attribute o f pos')) pos.line X.env = pure false := by rfl) : PSs' X W w0 M0 (.Assign [.Attribute o f pos'] a pos) (sFldSet cs f fo fa) :=
  PS.weak (ps_fld ho ha hs) fun D σ H ⟨w, r, h, e, R, k⟩ => by
    subst e
    refine ⟨w, r, h, rfl, R.rel, SK.cut R (fun x h1 w1 v1 l1 R1 q1 k1 => ?_) k⟩
    split at k1
    · rename_i y hy
      obtain ⟨w2, eH, l2, R2, q2⟩ := q1.keep R1 l1 hy
      refine ⟨w2, r, h1, eH, R.rel.le l2 R2, SK.cut (R.le' l2 R2) (fun p h3 w3 v3 l3 R3 q3 k3 => ?_) k1⟩
      split at k3
      · rename_i m
        split at k3
        · rename_i c fs hm
          split at k3
          · rename_i hc
            obtain ⟨hk, ev⟩ := res_obj q3
            subst ev
            obtain ⟨C, dx, gs, e1, e2, c1, n1, qf⟩ := ins_at R3 hm (ok c hc.1)
            refine ⟨_, C, dx, gs, rfl, e1, c1, n1, by rw [← qf.length]; exact hc.2, ?_⟩
            have q5 := q2.le R2 l3
            have hP := R3.inP m hk
            exact k3 (w3.updH (w3.io m) _) σ ((R.le' (l2.trans l3) R3).le' (Le.upd_any hk) (R3.upd_any hm ⟨C, dx, _, upd_same, e2, (qf.put q5).updH hP⟩))
          · exact k3.elim
        · exact k3.elim
      · exact k3.elim
    · exact k1.elim
theorem b_fldHp (cs : List Str) (ha : PEs X W a fa) (ho : PEs X W o fo) (ok : ∀ c, c ∈ cs → FldOk X.K X.mg c f) (hs : PySem.swapsWith a (some (.Attribute o f pos')) pos.line X.env = pure false := by rfl) : PSs' X W w0 M0 (.Assign [.Attribute o f pos'] a pos) (sFldHp cs f fo fa) :=
  PS.weak (ps_fld ho ha hs) fun D σ H ⟨w, r, h, e, R, k⟩ => by
    subst e
    refine ⟨w, r, h, rfl, R.rel, SK.cut R (fun x h1 w1 v1 l1 R1 q1 k1 => ?_) k⟩
    split at k1
    · rename_i xs
      obtain ⟨p, ys, e, e0, e1, q, hp, u⟩ := q1
      subst e
      have RG := R.grow l1 R1 e0 hp u (show RObj X.K X.mg w1 p (.lst xs) from ⟨ys, e1, q⟩)
      refine ⟨w1.grow p, r, _, rfl, RG.rel, SK.cut RG (fun p' h3 w3 v3 l3 R3 q3 k3 => ?_) k1⟩
      split at k3
      · rename_i m
        split at k3
        · rename_i c fs hm
          split at k3
          · rename_i hc
            obtain ⟨hk, ev⟩ := res_obj q3
            subst ev
            obtain ⟨C, dx, gs, e1', e2, c1, n1, qf⟩ := ins_at R3 hm (ok c hc.1)
            refine ⟨_, C, dx, gs, rfl, e1', c1, n1, by rw [← qf.length]; exact hc.2, ?_⟩
            have q5 : RVal X.K (w1.grow p) (.obj h1.length) (.ref p) := ⟨by rw [R1.len]; exact Nat.lt_succ_self _, by rw [R1.len, grow_at]⟩
            have q6 := q5.le RG.rel.hp l3
            have hP := R3.inP m hk
            exact k3 (w3.updH (w3.io m) _) σ ((RG.le' l3 R3).le' (Le.upd_any hk) (R3.upd_any hm ⟨C, dx, _, upd_same, e2, (qf.put q6).updH hP⟩))
          · exact k3.elim
        · exact k3.elim
      · exact k3.elim
    · exact k1.elim
theorem b_fldAug (cs : List Str) {op : Operator} {g : F2} {rd : V → V → Hp → VK → Prop} (hop : InOp X op rd) (hf : F2Ok X.K X.mg g rd) (ha : PEs X W a fa) (ho : PEs X W o fo) (ok : ∀ c, c ∈ cs → FldOk X.K X.mg c f) : PSs' X W w0 M0 (.AugAssign (.Attribute o f pos') op a pos) (sFldAug cs f g fo fa) :=
  PS.weak (ps_fldaug ho ha hop) fun D σ H ⟨w, r, h, e, R, k⟩ => by
    subst e
    refine ⟨w, r, h, rfl, R.rel, SK.cut R (fun p h1 w1 v1 l1 R1 q1 k1 => ?_) k⟩
    split at k1
    · rename_i m
      split at k1
      · rename_i c fs hm
        split at k1
        · rename_i hc
          split at k1
          · rename_i x hx
            obtain ⟨hk, ev⟩ := res_obj q1
            subst ev
            obtain ⟨C, dx, gs, e1, e2, c1, n1, qf⟩ := ins_at R1 hm (ok c hc)
            obtain ⟨v, el, qv⟩ := qf.look hx
            refine ⟨_, C, dx, gs, v, rfl, e1, c1, n1, el, w1, r, h1, rfl, R.rel.le l1 R1, SK.cut (R.le' l1 R1) (fun y h2 w2 v2 l2 R2 q2 k2 => ?_) k1⟩
            split at k2
            · rename_i z hz
              split at k2
              · rename_i z' hz'
                refine hf w2 w1 w1 h2 (.v x) y z v v2 _ R2 (qv.le R1 l2) q2 hz fun w3 v3 l3 R3 q3 => ?_
                obtain ⟨w4, eH, l4, R4, q4⟩ := q3.keep R3 l3 hz'
                split at k2
                · rename_i c' fs' hm'
                  split at k2
                  · rename_i hc'
                    obtain ⟨hcc, hlen⟩ := hc'
                    subst hcc
                    obtain ⟨C', dx', gs', f1, f2, _, _, qf'⟩ := ins_at R4 hm' (ok _ hc)
                    rw [e2] at f2
                    cases f2
                    have hk4 : m < w4.n := Nat.lt_of_lt_of_le hk (Nat.le_trans l2.n l4.n)
                    have eio : w4.io m = w1.io m := (l4.io m (Nat.lt_of_lt_of_le hk l2.n)).trans (l2.io m hk)
                    refine ⟨dx', gs', by rw [← eH, ← eio]; exact f1, by rw [← qf'.length]; exact hlen, ?_⟩
                    have hP := R4.inP m hk4
                    have := k2 (w4.updH (w4.io m) _) σ (((R.le' l1 R1).le' (l2.trans l4) R4).le' (Le.upd_any hk4) (R4.upd_any hm' ⟨C, dx', _, upd_same, e2, (qf'.put q4).updH hP⟩))
                    rw [← eH, ← eio]
                    exact this
                  · exact k2.elim
                · exact k2.elim
              · exact k2.elim
            · exact k2.elim
          · exact k1.elim
        · exact k1.elim
      · exact k1.elim
    · exact k1.elim
theorem b_fldAdd (cs : List Str) (ha : PEs X W a fa) (ho : PEs X W o fo) (ok : ∀ c, c ∈ cs → FldOk X.K X.mg c f) : PSs' X W w0 M0 (.AugAssign (.Attribute o f pos') .Add a pos) (sFldAug cs f (fI0 fun i j => .int (i + j)) fo fa) := b_fldAug cs in_add (fI0_ok (g := fun i j => V.int (i + j)) fun _ _ _ => rfl) ha ho ok
theorem b_fldSub (cs : List Str) (ha : PEs X W a fa) (ho : PEs X W o fo) (ok : ∀ c, c ∈ cs → FldOk X.K X.mg c f) : PSs' X W w0 M0 (.AugAssign (.Attribute o f pos') .Sub a pos) (sFldAug cs f fSub fo fa) := b_fldAug cs in_sub (fI0_ok (g := fun i j => V.int (i - j)) fun _ _ _ => rfl) ha ho ok
end
end SM

/-! SMMeth: methods, properties, new instances. -/
namespace SM
open PySem (Str Expr Stmt Pos Operator CmpOp Scope)
open L2 hiding St tB tAnd tOr tNot iRng1 iRng2 iRng3
/-! ### the layer's rules, with what is raised wished for at the caller's slots -/
section
variable {X : Cx} {CX : CXT} {k : Nat} {C p g f : Addr} {m x : Str} {fd : PySem.FuncData} {ps : List Str} {sp : Sp} {dvs : List V} {ds : List PySem.Value} {E : L2.St → XK} {o e : Expr} {es : List Expr} {apos pos np : Pos} {ta : TE} {t : TA}
def tMethSD (C : Addr) (m : Str) (sp : Sp) (dvs : List V) (E : L2.St → XK) (ta : TE) (t : TA) : TE := fun σ H Q => ta σ H fun x H1 => ∃ a dx fs, x = .ref a ∧ H1 a = some (.ins C dx fs) ∧ fs.lookup m = none ∧
  t σ H1 fun vs H2 => sp (x :: (vs ++ dvs)) H2 Q (E σ)
theorem pe_methSD {pl : PySem.Sem Bool} (he : PE X o ta) (c : Cls X.K C) (hm : Meth X.K C m f) (F : FnOk X.prog X.w X.K X.mg X.base CX k f fd ps sp) (hr : Room k X.A) (hb : Binds X.K fd ps ds) (hd : Vals dvs ds) (hx : ∀ σ, PassesAt CX X σ (E σ)) (ha : PA X (e :: es) t)
    (hst : PySem.starEach (e :: es) X.env = (false, PySem.eval e X.env) :: PySem.starEach es X.env := by rfl) (hpl : (PySem.backTo pos (PySem.starEach es X.env)).any (·.1) = false := by rfl)
    (ht : PySem.eval (.Call (.Attribute o m apos) (e :: es) [] pos) X.env = (do
      let ov ← PySem.eval o X.env
      PySem.standAt apos.atName
      let (f, first) ← PySem.holding [ov] (PySem.getMethod ov m pl)
      PySem.callWith pos f first (PySem.backTo pos (PySem.starEach (e :: es) X.env)) (PySem.backToKw pos (PySem.keywordEach [] X.env))) := by rfl) :
    PE X (.Call (.Attribute o m apos) (e :: es) [] pos) (tMethSD C m sp dvs E ta t) := by
  refine ⟨fun pins s σ H Q I h => ?_⟩
  refine PySem.W.methodCall_KW (pl := pl) (thn (he.run pins s σ H _ I h) fun u s1 ⟨x, H1, I1, rx, a, dx, fs, ex, ea, l, q⟩ => ?_) ht
  subst ex
  obtain rfl : u = PySem.Value.ref a := rx
  refine getmeth_ok I1 ea c hm l ?_
  refine PySem.W.callWith_K (first := [.ref a]) (h₀ := X.base) I.ok.mod.kin hm.kp (thn (ha.run pos pins s1 σ H1 _ I1 q) fun us s2 ⟨vs, H2, I2, r, q2⟩ => ⟨I2.kIn, ?_⟩) hst hpl
  exact run_fnSD (us := .ref a :: us) (vs := .ref a :: vs) F hr hb hd (hx σ) I2 (.cons rfl r) q2
theorem pe_methSD0 {pl : PySem.Sem Bool} (he : PE X o ta) (c : Cls X.K C) (hm : Meth X.K C m f) (F : FnOk X.prog X.w X.K X.mg X.base CX k f fd ps sp) (hr : Room k X.A) (hb : Binds X.K fd ps ds) (hd : Vals dvs ds) (hx : ∀ σ, PassesAt CX X σ (E σ))
    (ht : PySem.eval (.Call (.Attribute o m apos) [] [] pos) X.env = (do
      let ov ← PySem.eval o X.env
      PySem.standAt apos.atName
      let (f, first) ← PySem.holding [ov] (PySem.getMethod ov m pl)
      PySem.callWith pos f first (PySem.backTo pos (PySem.starEach [] X.env)) (PySem.backToKw pos (PySem.keywordEach [] X.env))) := by rfl) :
    PE X (.Call (.Attribute o m apos) [] [] pos) (tMethSD C m sp dvs E ta tNil) := by
  refine ⟨fun pins s σ H Q I h => ?_⟩
  refine PySem.W.methodCall_KW (pl := pl) (thn (he.run pins s σ H _ I h) fun u s1 ⟨x, H1, I1, rx, a, dx, fs, ex, ea, l, q⟩ => ?_) ht
  subst ex
  obtain rfl : u = PySem.Value.ref a := rx
  refine getmeth_ok I1 ea c hm l ?_
  exact PySem.W.callWith_K0 (first := [.ref a]) I1.kIn hm.kp (run_fnSD (us := [.ref a]) (vs := [.ref a]) F hr hb hd (hx σ) I1 (.cons rfl .nil) q)
def tPropSD (C : Addr) (sp : Sp) (E : L2.St → XK) (ta : TE) : TE := fun σ H Q => ta σ H fun x H1 => ∃ a dx fs, x = .ref a ∧ H1 a = some (.ins C dx fs) ∧ sp [.ref a] H1 Q (E σ)
theorem pe_propSD (he : PE X e ta) (c : Cls X.K C) (hp : PropOf X.K C m p g) (F : FnOk X.prog X.w X.K X.mg X.base CX k g fd ps sp) (hr : Room (k + 1) X.A) (hb : Binds X.K fd ps []) (hx : ∀ σ, PassesAt CX X.nox σ (E σ))
    (hab : PySem.attributeBase e m X.env (PySem.eval e X.env) = PySem.eval e X.env) : PE X (.Attribute e m pos) (tPropSD C sp E ta) := by
  refine ⟨fun pins s σ H Q I h => ?_⟩
  refine attr_of hab (thn (he.run pins s σ H _ I h) fun u s1 ⟨x, H1, I1, rx, a, dx, fs, ex, ea, q⟩ => ?_)
  subst ex
  obtain rfl : u = PySem.Value.ref a := rx
  obtain ⟨mA, O, _, _, _, _⟩ := ins_get I1.hok ea
  obtain ⟨od, J, _⟩ := O.look
  obtain ⟨rest, hrec⟩ := hp.rec_
  have I2 := I1.tok (s1.toks + 1)
  have hl : ([PySem.Value.ref a]).length = ps.length := F.len _ _ _ _ q
  have hc : (PySem.W.clsIn X.K C).isSome = true := by
    obtain ⟨cd, hc, _⟩ := PySem.W.any_some c.hd
    rw [hc]
    rfl
  refine PySem.W.get_bind I1.kIn J (PySem.W.plainGet_of (c.get m)).1 (PySem.W.findObj_data hc hp.at_ hp.get hp.tak) (PySem.W.plainGet_of (c.get m)).2 (PySem.wpAny_call (PySem.W.prop_get (s := { s1 with toks := s1.toks + 1 }) I1.kIn hrec ?_))
  refine PySem.codeAny_mono (F.run X.A.in1 X.stack { s1 with toks := s1.toks + 1 } H1 ⟨[.ref a], []⟩ [.ref a] [.ref a] Q (E σ) hr.in1 I2.env0.in1 (by have := hb { s1 with toks := s1.toks + 1 } [.ref a] I2.kIn (by rw [List.append_nil]; exact hl); rw [List.append_nil] at this; exact this) (.cons rfl .nil) q) fun r s' hq => ?_
  cases r with
  | error er => exact False.elim (hx σ pins H1 { s1 with toks := s1.toks + 1 } er s' (I2.wish _) hq)
  | ok fl =>
    cases fl with
    | ret u =>
      obtain ⟨v, H', I3, rv, q3⟩ := I2.after hq
      show PySem.wpAny _ _ (PySem.handedOut u) _ _ _
      rw [PySem.W.handedOut_of (handed_of rv)]
      exact PySem.wpAny_pure ⟨v, H', I3, rv, q3⟩
    | next => exact False.elim hq
    | brk => exact False.elim hq
    | cont => exact False.elim hq
def tMakeSD (C : Addr) (sp : Sp) (dvs : List V) (E : L2.St → XK) (t : TA) : TE := fun σ H Q => t σ H fun vs H1 => ∀ x dx, H1 x = none → H1 dx = none → dx ≠ x →
  sp (.ref x :: (vs ++ dvs)) (upd (upd H1 dx (.own x)) x (.ins C dx [])) (fun v H2 => v = .non ∧ Q (.ref x) H2) (E σ)
/-- what is raised by a callee, wished for at the slots, is raised by the instance's making -/
abbrev PassM (CX : CXT) (X : Cx) (E : L2.St → XK) : Prop := ∀ σ, PassesAt CX X σ (E σ)
theorem run_makeSD {pins : List (Addr × PySem.Obj)} {σ : L2.St} {H : Hp} {s : PySem.Shared} {Q : VK} {us : List PySem.Value} {vs : List V} (M : Mk X.K C f) (F : FnOk X.prog X.w X.K X.mg X.base CX k f fd ps sp) (hr : Room (k + 1) X.A) (hb : Binds X.K fd ps ds) (hd : Vals dvs ds)
    (hx : PassM CX X E) (I : Inv X pins σ H s) (r : Vals vs us)
    (h : ∀ x dx, H x = none → H dx = none → dx ≠ x → sp (.ref x :: (vs ++ dvs)) (upd (upd H dx (.own x)) x (.ins C dx [])) (fun v H2 => v = .non ∧ Q (.ref x) H2) (E σ)) :
    PySem.wpAny (PySem.model X.prog X.w) X.A (PySem.call (.ref C) us) (EP X pins σ Q) X.xe s := by
  have hq := h (s.heap.objs.size + 1) s.heap.objs.size (I.hok.fresh (Nat.le_succ _)) (I.hok.fresh (Nat.le_refl _)) (Nat.ne_of_lt (Nat.lt_succ_self _))
  have I2 := Inv.made (C := C) I
  have r2 : Vals (V.ref (s.heap.objs.size + 1) :: (vs ++ dvs)) (PySem.Value.ref (s.heap.objs.size + 1) :: (us ++ ds)) := .cons rfl (r.append hd)
  have hl : (PySem.Value.ref (s.heap.objs.size + 1) :: us ++ ds).length = ps.length := by
    have e := r2.length
    rw [F.len _ _ _ _ hq] at e
    exact e.symm
  refine PySem.wpAny_call (make_map (f := f) I.kIn M.makes M.init (beq_iff_eq.mp M.fn) (PySem.codeAny_mono (F.run _ X.stack _ _ ⟨PySem.Value.ref (s.heap.objs.size + 1) :: us, []⟩ (PySem.Value.ref (s.heap.objs.size + 1) :: (us ++ ds)) _ _ (E σ) (hr.make C us [])
    (I2.env0.make C us []) (hb _ (PySem.Value.ref (s.heap.objs.size + 1) :: us) I2.kIn hl) r2 hq) fun r s' hq' => ?_))
  cases r with
  | error e => exact hx σ pins _ _ e s' I2 hq'
  | ok fl =>
    cases fl with
    | ret u =>
      obtain ⟨v, H', I3, rv, ev, q3⟩ := I2.after hq'
      subst ev
      exact ⟨rv, ⟨V.ref (s.heap.objs.size + 1), H', I3, rfl, q3⟩⟩
    | next => exact False.elim hq'
    | brk => exact False.elim hq'
    | cont => exact False.elim hq'
theorem pe_makeSD (M : Mk X.K C f) (F : FnOk X.prog X.w X.K X.mg X.base CX k f fd ps sp) (hr : Room (k + 1) X.A) (hg : Gl X x) (hm : X.mg x = some (.ref C)) (hb : Binds X.K fd ps ds) (hd : Vals dvs ds) (hx : PassM CX X E)
    (ha : PA X (e :: es) t) (hdb : (x == ("__debug__" : Str)) = false := by decide) (he : PySem.starEach (e :: es) X.env = (false, PySem.eval e X.env) :: PySem.starEach es X.env := by rfl) (hpl : (PySem.backTo pos (PySem.starEach es X.env)).any (·.1) = false := by rfl) :
    PE X (.Call (.Name x np) (e :: es) [] pos) (tMakeSD C sp dvs E t) := by
  refine ⟨fun pins s σ H Q I h => ?_⟩
  refine PySem.wpAny_Call_Name_kw (ld_glob I hg hm ?_ hdb)
  refine PySem.W.callWith_K (h₀ := X.base) I.ok.mod.kin M.kp (thn (ha.run pos pins s σ H _ I h) fun us s1 ⟨vs, H1, I1, r, q⟩ => ⟨I1.kIn, ?_⟩) he hpl
  exact run_makeSD M F hr hb hd hx I1 r q
theorem pe_makeSD0 (M : Mk X.K C f) (F : FnOk X.prog X.w X.K X.mg X.base CX k f fd ps sp) (hr : Room (k + 1) X.A) (hg : Gl X x) (hm : X.mg x = some (.ref C)) (hb : Binds X.K fd ps ds) (hd : Vals dvs ds) (hx : PassM CX X E)
    (hdb : (x == ("__debug__" : Str)) = false := by decide) : PE X (.Call (.Name x np) [] [] pos) (tMakeSD C sp dvs E tNil) := by
  refine ⟨fun pins s σ H Q I h => ?_⟩
  refine PySem.wpAny_Call_Name_kw (ld_glob I hg hm ?_ hdb)
  exact PySem.W.callWith_K0 I.kIn M.kp (run_makeSD (us := []) M F hr hb hd hx I .nil h)
end
/-! ### ours -/
/-- a method of a class of the text keeps what fn says (self counts among the n) -/
structure MethOk (P : PySem.Program) (w : PySem.World) (K : Frag) (mg : Mg) (base : PySem.Heap) (k : Nat) (c m : Str) (n : Nat) (fn : Fn) : Prop where
  ex : ∃ C f fd ps, mg c = some (.ref C) ∧ Cls K C ∧ Meth K C m f ∧ Binds K fd ps [] ∧ FnOk P w K mg base (L2.CX P w) k f fd ps (spF K mg n fn)
theorem MethOk.mono {P : PySem.Program} {w : PySem.World} {K : Frag} {mg : Mg} {base : PySem.Heap} {k j : Nat} {c m : Str} {n : Nat} {fn : Fn} (M : MethOk P w K mg base k c m n fn) (h : k ≤ j) : MethOk P w K mg base j c m n fn := by
  obtain ⟨C, f, fd, ps, h1, h2, h3, h4, F⟩ := M.ex
  exact ⟨C, f, fd, ps, h1, h2, h3, h4, F.mono h⟩
structure PropOk (P : PySem.Program) (w : PySem.World) (K : Frag) (mg : Mg) (base : PySem.Heap) (k : Nat) (c m : Str) (fn : Fn) : Prop where
  ex : ∃ C p f fd ps, mg c = some (.ref C) ∧ Cls K C ∧ PropOf K C m p f ∧ Binds K fd ps [] ∧ FnOk P w K mg base (L2.CX P w) k f fd ps (spF K mg 1 fn)
/-- C(..), all parameters given -/
structure MakeOk (P : PySem.Program) (w : PySem.World) (K : Frag) (mg : Mg) (base : PySem.Heap) (k : Nat) (c : Str) (n : Nat) (fn : Fn) : Prop where
  ex : ∃ C f fd ps, mg c = some (.ref C) ∧ Mk K C f ∧ Binds K fd ps [] ∧ FnOk P w K mg base (L2.CX P w) k f fd ps (spF K mg n fn)
abbrev MTab := List (Str × Fn)
def methK (tb : MTab) (m : Str) (as : A) (r : Env) : RV → Heap → EO RV := fun x h1 => match x with
  | .v (.obj n) => match h1[n]? with
    | some (.ins c fs) => match fs.lookup m with
      | none => match tb.lookup c with
        | some fn => (as r h1).bind fun xs h2 => fn (.v (.obj n) :: xs) h2
        | none => .no
      | some _ => .no
    | _ => .no
  | _ => .no
def eMeth (tb : MTab) (m : Str) (o : E) (as : A) : E := fun r h => (o r h).bind (methK tb m as r)
def EO.noEx {α : Type} : EO α → EO α
  | .ok x h => .ok x h
  | _ => .no
def propK (tb : MTab) : RV → Heap → EO RV := fun x h1 => match x with
  | .v (.obj n) => match h1[n]? with
    | some (.ins c fs) => match tb.lookup c with
      | some fn => (fn [.v (.obj n)] h1).noEx
      | none => .no
    | _ => .no
  | _ => .no
def eProp (tb : MTab) (o : E) : E := fun r h => (o r h).bind (propK tb)
def makeK (n : Nat) : RV → Heap → EO RV := fun y h2 => match y with
  | .v .none => .ok (.v (.obj n)) h2
  | _ => .no
def eMake (c : Str) (fn : Fn) (as : A) : E := fun r h => (as r h).bind fun xs h1 => (fn (.v (.obj h1.length) :: xs) (h1 ++ [.ins c []])).bind (makeK h1.length)
theorem fk_of {K : Frag} {mg : Mg} {W : WX} {w : Rw} {σ : L2.St} {Q : VK} : ∀ {o : EO RV}, EK K mg W w σ Q o → FK K mg w Q (WE W σ) o
  | .ok _ _, k => k
  | .ex _ _, k => k
  | .no, k => k
theorem EK.imp {K : Frag} {mg : Mg} {W : WX} {w : Rw} {σ : L2.St} {Q Q' : VK} (c : ∀ v H, Q v H → Q' v H) : ∀ {o : EO RV}, EK K mg W w σ Q o → EK K mg W w σ Q' o
  | .ok _ _, k => fun w' v l R q => c _ _ (k w' v l R q)
  | .ex _ _, k => k
  | .no, k => k
section
variable {X : Cx} {W : WX} {pos apos np : Pos} {o e : Expr} {es : List Expr} {fo : E} {fs : A} {k j n : Nat} {c m x : Str} {fn : Fn} {tb : MTab}
theorem meth_sp {K : Frag} {mg : Mg} {W : WX} {w : Rw} {σ : L2.St} {Q : VK} {r : Env} {h1 : Heap} {C : Addr} {a : Nat} {fls : List (Str × Val)} {v : V} (hC : mg c = some (.ref C)) (hn : ∀ r h xs h1, fs r h = .ok xs h1 → xs.length = n)
    (R : Rel K mg w r h1 σ) (q : RVal K w (.obj a) v) (ha : h1[a]? = some (.ins c fls)) (hl : fls.lookup m = none) (k : EK K mg W w σ Q ((fs r h1).bind fun xs h2 => fn (.v (.obj a) :: xs) h2)) :
    ∃ b dx gs, v = .ref b ∧ w.H b = some (.ins C dx gs) ∧ gs.lookup m = none ∧ tA K mg W fs σ w.H fun vs H2 => spF K mg (n + 1) fn (v :: (vs ++ [])) H2 Q (WE W σ) := by
  obtain ⟨hk, ev⟩ := q
  subst ev
  obtain ⟨C', dx, gs, e1, e2, qf⟩ := R.hp.obj a _ ha
  rw [hC] at e2
  cases e2
  refine ⟨_, dx, gs, rfl, e1, qf.lookN hl, w, r, h1, rfl, R, ?_⟩
  cases hf : fs r h1 with
  | no => rw [hf] at k; exact k.elim
  | ex e h2 => rw [hf] at k; exact k
  | ok xs h2 =>
    rw [hf] at k
    intro w' vs l R1 q1
    have hlen := hn r h1 xs h2 hf
    have k : EK K mg W w σ Q (fn (.v (.obj a) :: xs) h2) := k
    refine ⟨w', h2, .v (.obj a) :: xs, rfl, R1, ⟨_, vs, by rw [List.append_nil], (show RVal K w' (.obj a) _ from ⟨Nat.lt_of_lt_of_le hk l.n, by rw [l.io a hk]⟩), q1⟩, by rw [List.append_nil, List.length_cons, ← q1.len, hlen], fk_of (EK.le l k)⟩
/-- o.m(e, ..) -/
theorem s_meth (tk : Takes X W) (hr : Room j X.A) (hn : ArgN fs n) (hne : ∃ c0 f0, tb.lookup c0 = some f0) (ok : ∀ c f, tb.lookup c = some f → MethOk X.prog X.w X.K X.mg X.base k c m (n + 1) f) (ho : PEs X W o fo) (ha : PAs X W (e :: es) fs) (hk : k ≤ j := by decide) {pl : PySem.Sem Bool}
    (hst : PySem.starEach (e :: es) X.env = (false, PySem.eval e X.env) :: PySem.starEach es X.env := by rfl) (hpl : (PySem.backTo pos (PySem.starEach es X.env)).any (·.1) = false := by rfl)
    (ht : PySem.eval (.Call (.Attribute o m apos) (e :: es) [] pos) X.env = (do
      let ov ← PySem.eval o X.env
      PySem.standAt apos.atName
      let (f, first) ← PySem.holding [ov] (PySem.getMethod ov m pl)
      PySem.callWith pos f first (PySem.backTo pos (PySem.starEach (e :: es) X.env)) (PySem.backToKw pos (PySem.keywordEach [] X.env))) := by rfl) :
    PEs X W (.Call (.Attribute o m apos) (e :: es) [] pos) (eMeth tb m fo fs) := by
  refine ⟨fun pins s σ H Q I ⟨w, r, h, eH, R, k⟩ => ?_⟩
  subst eH
  unfold eMeth at k
  cases hfo : fo r h with
  | no => rw [hfo] at k; exact k.elim
  | ex ee h1 =>
    rw [hfo] at k
    obtain ⟨c0, f0, h0⟩ := hne
    obtain ⟨C, f, fd, ps, hC, cl, mt, hb, F⟩ := (ok c0 f0 h0).ex
    refine (pe_methSD (E := WE W) (ds := []) (dvs := []) ho cl mt F (hr.mono hk) hb .nil (fun σ => passAt tk σ) ha hst hpl ht).run pins s σ w.H Q I ⟨w, r, h, rfl, R, ?_⟩
    rw [hfo]
    exact k
  | ok y h1 =>
    rw [hfo] at k
    have k : EK X.K X.mg W w σ Q (methK tb m fs r y h1) := k
    unfold methK at k
    split at k
    · rename_i a
      split at k
      · rename_i c fls hc
        split at k
        · rename_i hl
          split at k
          case h_2 => exact k.elim
          rename_i fn htb
          obtain ⟨C, f, fd, ps, hC, cl, mt, hb, F⟩ := (ok c fn htb).ex
          refine (pe_methSD (E := WE W) (ds := []) (dvs := []) ho cl mt F (hr.mono hk) hb .nil (fun σ => passAt tk σ) ha hst hpl ht).run pins s σ w.H Q I ⟨w, r, h, rfl, R, ?_⟩
          rw [hfo]
          intro w1 v1 l1 R1 q1
          exact meth_sp hC hn (R.le l1 R1) q1 hc hl (EK.le l1 k)
        · exact k.elim
      · exact k.elim
    · exact k.elim
/-- o.m() -/
theorem s_meth0 (tk : Takes X W) (hr : Room j X.A) (hne : ∃ c0 f0, tb.lookup c0 = some f0) (ok : ∀ c f, tb.lookup c = some f → MethOk X.prog X.w X.K X.mg X.base k c m 1 f) (ho : PEs X W o fo) (hk : k ≤ j := by decide) {pl : PySem.Sem Bool}
    (ht : PySem.eval (.Call (.Attribute o m apos) [] [] pos) X.env = (do
      let ov ← PySem.eval o X.env
      PySem.standAt apos.atName
      let (f, first) ← PySem.holding [ov] (PySem.getMethod ov m pl)
      PySem.callWith pos f first (PySem.backTo pos (PySem.starEach [] X.env)) (PySem.backToKw pos (PySem.keywordEach [] X.env))) := by rfl) :
    PEs X W (.Call (.Attribute o m apos) [] [] pos) (eMeth tb m fo aNil) := by
  refine ⟨fun pins s σ H Q I ⟨w, r, h, eH, R, k⟩ => ?_⟩
  subst eH
  unfold eMeth at k
  cases hfo : fo r h with
  | no => rw [hfo] at k; exact k.elim
  | ex ee h1 =>
    rw [hfo] at k
    obtain ⟨c0, f0, h0⟩ := hne
    obtain ⟨C, f, fd, ps, hC, cl, mt, hb, F⟩ := (ok c0 f0 h0).ex
    refine (pe_methSD0 (E := WE W) (ds := []) (dvs := []) ho cl mt F (hr.mono hk) hb .nil (fun σ => passAt tk σ) ht).run pins s σ w.H Q I ⟨w, r, h, rfl, R, ?_⟩
    rw [hfo]
    exact k
  | ok y h1 =>
    rw [hfo] at k
    have k : EK X.K X.mg W w σ Q (methK tb m aNil r y h1) := k
    unfold methK at k
    split at k
    · rename_i a
      split at k
      · rename_i c fls hc
        split at k
        · rename_i hl
          split at k
          case h_2 => exact k.elim
          rename_i fn htb
          obtain ⟨C, f, fd, ps, hC, cl, mt, hb, F⟩ := (ok c fn htb).ex
          refine (pe_methSD0 (E := WE W) (ds := []) (dvs := []) ho cl mt F (hr.mono hk) hb .nil (fun σ => passAt tk σ) ht).run pins s σ w.H Q I ⟨w, r, h, rfl, R, ?_⟩
          rw [hfo]
          intro w1 v1 l1 R1 q1
          obtain ⟨b, dx, gs, e1, e2, e3, wA, rA, hA, eA, RA, kA⟩ := meth_sp (fs := aNil) (n := 0) hC an0 (R.le l1 R1) q1 hc hl (EK.le l1 k)
          refine ⟨b, dx, gs, e1, e2, e3, ?_⟩
          have := kA wA [] (Le.refl _) RA.hp rfl
          rw [eA] at this
          exact this
        · exact k.elim
      · exact k.elim
    · exact k.elim
/-- o.m, a property that raises nothing -/
theorem s_prop (hr : Room (k + 1) X.A) (hne : ∃ c0 f0, tb.lookup c0 = some f0) (ok : ∀ c f, tb.lookup c = some f → PropOk X.prog X.w X.K X.mg X.base k c m f) (ho : PEs X W o fo)
    (hab : PySem.attributeBase o m X.env (PySem.eval o X.env) = PySem.eval o X.env := by rfl) : PEs X W (.Attribute o m pos) (eProp tb fo) := by
  have hx : ∀ σ, PassesAt (L2.CX X.prog X.w) X.nox σ (fun _ _ _ => False) := fun σ pins H s e s' I c => (cx_none c).elim
  refine ⟨fun pins s σ H Q I ⟨w, r, h, eH, R, k⟩ => ?_⟩
  subst eH
  unfold eProp at k
  cases hfo : fo r h with
  | no => rw [hfo] at k; exact k.elim
  | ex ee h1 =>
    rw [hfo] at k
    obtain ⟨c0, f0, h0⟩ := hne
    obtain ⟨C, p, f, fd, ps, hC, cl, mt, hb, F⟩ := (ok c0 f0 h0).ex
    refine (pe_propSD (E := fun _ _ _ _ => False) ho cl mt F hr hb hx hab).run pins s σ w.H Q I ⟨w, r, h, rfl, R, ?_⟩
    rw [hfo]
    exact k
  | ok y h1 =>
    rw [hfo] at k
    have k : EK X.K X.mg W w σ Q (propK tb y h1) := k
    unfold propK at k
    split at k
    · rename_i a _
      split at k
      · rename_i c fls hc
        split at k
        · rename_i fn htb
          obtain ⟨C, p, f, fd, ps, hC, cl, mt, hb, F⟩ := (ok c fn htb).ex
          refine (pe_propSD (E := fun _ _ _ _ => False) ho cl mt F hr hb hx hab).run pins s σ w.H Q I ⟨w, r, h, rfl, R, ?_⟩
          rw [hfo]
          intro w1 v1 l1 R1 q1
          obtain ⟨hk, ev⟩ := q1
          subst ev
          obtain ⟨C', dx, gs, e1, e2, qf⟩ := R1.obj a _ hc
          rw [hC] at e2
          cases e2
          refine ⟨_, dx, gs, rfl, e1, w1, h1, [.v (.obj a)], rfl, R1, ⟨_, [], rfl, (show RVal X.K w1 (.obj a) _ from ⟨hk, rfl⟩), rfl⟩, rfl, ?_⟩
          have k2 := EK.le l1 k
          cases hfn : fn [.v (.obj a)] h1 with
          | ok y h2 => rw [hfn] at k2; exact k2
          | no => rw [hfn] at k2; exact k2.elim
          | ex e h2 => rw [hfn] at k2; exact k2.elim
        · exact k.elim
      · exact k.elim
    · exact k.elim
/-- a new instance's world -/
def Rw.newI (w : Rw) (x dx C : Addr) : Rw := ⟨w.io, fun b => b = x ∨ w.P b, w.n, upd (upd w.H dx (.own x)) x (.ins C dx [])⟩
theorem newI_at {w : Rw} {x dx C b : Addr} {u : HO} (hx : w.H x = none) (hd : w.H dx = none) (e : w.H b = some u) : (w.newI x dx C).H b = some u := (upd_ne (ne_of_none e hx)).trans ((upd_ne (ne_of_none e hd)).trans e)
theorem Le.newI {w : Rw} {x dx C : Addr} (hx : w.H x = none) (hd : w.H dx = none) : Le w (w.newI x dx C) where
  n := Nat.le_refl _
  io := fun _ _ => rfl
  keep := fun b u e _ => newI_at hx hd e
  there := fun b u e => ⟨u, newI_at hx hd e⟩
  P := fun b u e => ⟨fun z => z.elim (fun z => absurd z (ne_of_none e hx)) id, .inr⟩
  new := fun k h1 h2 => absurd h2 (Nat.not_lt.mpr h1)
theorem RHp.newI {K : Frag} {mg : Mg} {w : Rw} {h : Heap} {x dx C : Addr} (R : RHp K mg w h) (hx : w.H x = none) (hd : w.H dx = none) : RHp K mg (w.newI x dx C) h :=
  R.laid (Le.newI hx hd) rfl rfl (fun b u e => newI_at hx hd e) fun b hb => hb.elim (fun z => .inr ⟨.ins C dx [], by rw [z]; exact upd_same⟩) .inl
theorem make_sp {K : Frag} {mg : Mg} {W : WX} {w : Rw} {σ : L2.St} {Q : VK} {h1 : Heap} {C : Addr} {xs : List RV} {vs : List V} (hC : mg c = some (.ref C)) (R : RHp K mg w h1) (q : RArgs K w xs vs) (hl : vs.length = n)
    (k : EK K mg W w σ Q ((fn (.v (.obj h1.length) :: xs) (h1 ++ [.ins c []])).bind (makeK h1.length))) (x dx : Addr) (hx : w.H x = none) (hd : w.H dx = none) :
    spF K mg (n + 1) fn (.ref x :: vs) (upd (upd w.H dx (.own x)) x (.ins C dx [])) (fun v H2 => v = .non ∧ Q (.ref x) H2) (WE W σ) := by
  have lI := Le.newI (C := C) hx hd
  have RI := R.newI (C := C) hx hd
  have uI : (w.newI x dx C).out x := R.outN hx
  have pI : (w.newI x dx C).P x := .inl rfl
  have RG := RI.grow pI uI (o := .ins c []) ⟨C, dx, [], upd_same, hC, rfl⟩
  have lG : Le w ((w.newI x dx C).grow x) := lI.grow hx
  have qx : RVal K ((w.newI x dx C).grow x) (.obj h1.length) (.ref x) := ⟨by rw [R.len]; exact Nat.lt_succ_self _, by rw [R.len]; exact grow_at.symm ▸ rfl⟩
  refine ⟨(w.newI x dx C).grow x, h1 ++ [.ins c []], .v (.obj h1.length) :: xs, rfl, RG, ⟨_, vs, rfl, qx, q.of_le R lG⟩, by rw [List.length_cons, hl], ?_⟩
  have k2 := EK.le lG k
  cases hf : fn (.v (.obj h1.length) :: xs) (h1 ++ [.ins c []]) with
  | no => rw [hf] at k2; exact k2.elim
  | ex e h2 => rw [hf] at k2; exact k2
  | ok y h2 =>
    rw [hf] at k2
    intro w' v l R' q'
    have k2 : EK K mg W ((w.newI x dx C).grow x) σ Q (makeK h1.length y h2) := k2
    unfold makeK at k2
    split at k2
    · have e : v = .non := q'
      exact ⟨e, k2 w' (.ref x) l R' (qx.le RG l)⟩
    · exact k2.elim
/-- C(e, ..) -/
theorem s_make (M : MakeOk X.prog X.w X.K X.mg X.base k c (n + 1) fn) (tk : Takes X W) (hr : Room j X.A) (hn : ArgN fs n) (ha : PAs X W (e :: es) fs) (hk : k + 1 ≤ j := by decide) (hg : Gl X c := by rfl) (hdb : (c == ("__debug__" : Str)) = false := by decide)
    (he : PySem.starEach (e :: es) X.env = (false, PySem.eval e X.env) :: PySem.starEach es X.env := by rfl) (hpl : (PySem.backTo pos (PySem.starEach es X.env)).any (·.1) = false := by rfl) :
    PEs X W (.Call (.Name c np) (e :: es) [] pos) (eMake c fn fs) := by
  obtain ⟨C, f, fd, ps, hC, mk, hb, F⟩ := M.ex
  refine PE.weak (pe_makeSD (E := WE W) (ds := []) (dvs := []) mk F (hr.mono hk) hg hC hb .nil (fun σ => passAt tk σ) ha hdb he hpl) fun σ H Q ⟨w, r, h, eH, R, k⟩ => ?_
  subst eH
  refine ⟨w, r, h, rfl, R, ?_⟩
  unfold eMake at k
  cases hf : fs r h with
  | no => rw [hf] at k; exact k.elim
  | ex ee h1 => rw [hf] at k; exact k
  | ok xs h1 =>
    rw [hf] at k
    intro w1 vs l1 R1 q1 x dx hx hd _
    rw [List.append_nil]
    exact make_sp hC R1 q1 (by rw [← q1.len, hn r h xs h1 hf]) (EK.le l1 k) x dx hx hd
theorem s_make0 (M : MakeOk X.prog X.w X.K X.mg X.base k c 1 fn) (tk : Takes X W) (hr : Room j X.A) (hk : k + 1 ≤ j := by decide) (hg : Gl X c := by rfl) (hdb : (c == ("__debug__" : Str)) = false := by decide) :
    PEs X W (.Call (.Name c np) [] [] pos) (eMake c fn aNil) := by
  obtain ⟨C, f, fd, ps, hC, mk, hb, F⟩ := M.ex
  refine PE.weak (pe_makeSD0 (E := WE W) (ds := []) (dvs := []) mk F (hr.mono hk) hg hC hb .nil (fun σ => passAt tk σ) hdb) fun σ H Q ⟨w, r, h, eH, R, k⟩ => ?_
  subst eH
  intro x dx hx hd _
  exact make_sp (xs := []) (vs := []) hC R.hp rfl rfl k x dx hx hd
end
end SM

/-! SMKw: calls with keywords and defaults. -/
namespace SM
open PySem (Str Expr Stmt Pos Operator CmpOp Scope)
open L2 hiding St tB tAnd tOr tNot iRng1 iRng2 iRng3
section
variable {X : Cx} {CX : CXT} {k n : Nat} {f C : Addr} {fd : PySem.FuncData} {ps ks : List Str} {sp : Sp} {E : L2.St → XK} {x : Str} {p pos : Pos} {e : Expr} {es : List Expr} {kws : List PySem.Keyword} {t tk : TA} {g : List PySem.Value → List PySem.Value → List PySem.Value} {gV : List V → List V → List V}
def tCallNSD (n m : Nat) (sp : Sp) (gV : List V → List V → List V) (E : L2.St → XK) (t tk : TA) : TE := fun σ H Q => t σ H fun vs H1 => tk σ H1 fun zs H2 => vs.length = n ∧ zs.length = m ∧ sp (gV vs zs) H2 Q (E σ)
theorem run_fnNSD {pins : List (Addr × PySem.Obj)} {σ : L2.St} {H : Hp} {s : PySem.Shared} {Q : VK} {us ws : List PySem.Value} {vs zs : List V} (F : FnOk X.prog X.w X.K X.mg X.base CX k f fd ps sp) (hr : Room k X.A) (hb : KBn X.K fd ps n ks g gV) (hx : PassM CX X E)
    (I : Inv X pins σ H s) (r : Vals vs us) (rz : Vals zs ws) (l1 : vs.length = n) (l2 : zs.length = ks.length) (h : sp (gV vs zs) H Q (E σ)) : PySem.wpAny (PySem.model X.prog X.w) X.A (PySem.call (.ref f) us (ks.zip ws)) (EP X pins σ Q) X.xe s := by
  have r2 := hb.rel r rz
  refine PySem.wpAny_call (PySem.codeAny_mono (F.run X.A X.stack s H ⟨us, ks.zip ws⟩ (g us ws) (gV vs zs) Q (E σ) hr I.env0 (hb.to s us ws I.kIn (r.length.symm.trans l1) (rz.length.symm.trans l2)) r2 h) fun r s' hq => ?_)
  cases r with
  | error e => exact hx σ pins H s e s' I hq
  | ok fl =>
    cases fl with
    | ret u => exact I.after hq
    | next => exact False.elim hq
    | brk => exact False.elim hq
    | cont => exact False.elim hq
theorem pe_callNSD (F : FnOk X.prog X.w X.K X.mg X.base CX k f fd ps sp) (hr : Room k X.A) (hg : Gl X x) (hm : X.mg x = some (.ref f)) (hk : PySem.W.keepIn X.K (.ref f) = true) (hb : KBn X.K fd ps n ks g gV) (hx : PassM CX X E)
    (ha : PA X (e :: es) t) (hkw : PK X kws tk) (hall : (PySem.backToKw pos (PySem.keywordEach kws X.env)).all (·.1.isSome) = true := by rfl) (hks : (PySem.backToKw pos (PySem.keywordEach kws X.env)).filterMap (·.1) = ks := by rfl)
    (hdb : (x == ("__debug__" : Str)) = false := by decide) (he : PySem.starEach (e :: es) X.env = (false, PySem.eval e X.env) :: PySem.starEach es X.env := by rfl)
    (hpl : ((PySem.backTo pos (PySem.starEach (e :: es) X.env)).any (·.1) || (PySem.backToKw pos (PySem.keywordEach kws X.env)).any (·.1.isNone)) = false := by rfl) :
    PE X (.Call (.Name x p) (e :: es) kws pos) (tCallNSD n ks.length sp gV E t tk) := by
  refine ⟨fun pins s σ H Q I h => ?_⟩
  refine PySem.wpAny_Call_Name_kw (ld_glob I hg hm ?_ hdb)
  refine PySem.W.callWith_KW (h₀ := X.base) I.ok.mod.kin hk hall (thn (ha.run pos pins s σ H _ I h) fun us s1 ⟨vs, H1, I1, r, q⟩ => ?_) hpl he
  refine thn (hkw.run pos pins s1 σ H1 _ I1 q) fun ws s2 ⟨zs, H2, I2, rz, l1, l2, q2⟩ => ⟨I2.kIn, ?_⟩
  rw [hks]
  exact run_fnNSD F hr hb hx I2 r rz l1 l2 q2
def tMakeKSD (C : Addr) (n m : Nat) (sp : Sp) (gV : List V → List V → List V) (E : L2.St → XK) (t tk : TA) : TE := fun σ H Q => t σ H fun vs H1 => tk σ H1 fun zs H2 => vs.length = n ∧ zs.length = m ∧ ∀ x dx, H2 x = none → H2 dx = none → dx ≠ x →
  sp (gV (.ref x :: vs) zs) (upd (upd H2 dx (.own x)) x (.ins C dx [])) (fun v H3 => v = .non ∧ Q (.ref x) H3) (E σ)
theorem run_makeKSD {pins : List (Addr × PySem.Obj)} {σ : L2.St} {H : Hp} {s : PySem.Shared} {Q : VK} {us ws : List PySem.Value} {vs zs : List V} (M : Mk X.K C f) (F : FnOk X.prog X.w X.K X.mg X.base CX k f fd ps sp) (hr : Room (k + 1) X.A) (hb : KBn X.K fd ps (n + 1) ks g gV) (hx : PassM CX X E)
    (I : Inv X pins σ H s) (r : Vals vs us) (rz : Vals zs ws) (l1 : vs.length = n) (l2 : zs.length = ks.length)
    (h : ∀ x dx, H x = none → H dx = none → dx ≠ x → sp (gV (.ref x :: vs) zs) (upd (upd H dx (.own x)) x (.ins C dx [])) (fun v H2 => v = .non ∧ Q (.ref x) H2) (E σ)) :
    PySem.wpAny (PySem.model X.prog X.w) X.A (PySem.call (.ref C) us (ks.zip ws)) (EP X pins σ Q) X.xe s := by
  have hq := h (s.heap.objs.size + 1) s.heap.objs.size (I.hok.fresh (Nat.le_succ _)) (I.hok.fresh (Nat.le_refl _)) (Nat.ne_of_lt (Nat.lt_succ_self _))
  have I2 := Inv.made (C := C) I
  have r1 : Vals (V.ref (s.heap.objs.size + 1) :: vs) (PySem.Value.ref (s.heap.objs.size + 1) :: us) := .cons rfl r
  have r2 := hb.rel r1 rz
  have n1 : (PySem.Value.ref (s.heap.objs.size + 1) :: us).length = n + 1 := by
    rw [List.length_cons, ← r.length, l1]
  refine PySem.wpAny_call (make_map (f := f) I.kIn M.makes M.init (beq_iff_eq.mp M.fn) (PySem.codeAny_mono (F.run _ X.stack _ _ ⟨PySem.Value.ref (s.heap.objs.size + 1) :: us, ks.zip ws⟩ (g (PySem.Value.ref (s.heap.objs.size + 1) :: us) ws) _ _ (E σ) (hr.make C us (ks.zip ws))
    (I2.env0.make C us (ks.zip ws)) (hb.to _ (PySem.Value.ref (s.heap.objs.size + 1) :: us) ws I2.kIn n1 (rz.length.symm.trans l2)) r2 hq) fun r s' hq' => ?_))
  cases r with
  | error e => exact hx σ pins _ _ e s' I2 hq'
  | ok fl =>
    cases fl with
    | ret u =>
      obtain ⟨v, H', I3, rv, ev, q3⟩ := I2.after hq'
      subst ev
      exact ⟨rv, ⟨V.ref (s.heap.objs.size + 1), H', I3, rfl, q3⟩⟩
    | next => exact False.elim hq'
    | brk => exact False.elim hq'
    | cont => exact False.elim hq'
theorem pe_makeKSD0 (M : Mk X.K C f) (F : FnOk X.prog X.w X.K X.mg X.base CX k f fd ps sp) (hr : Room (k + 1) X.A) (hg : Gl X x) (hm : X.mg x = some (.ref C)) (hb : KBn X.K fd ps 1 ks g gV) (hx : PassM CX X E) (hkw : PK X kws tk)
    (hall : (PySem.backToKw pos (PySem.keywordEach kws X.env)).all (·.1.isSome) = true := by rfl) (hks : (PySem.backToKw pos (PySem.keywordEach kws X.env)).filterMap (·.1) = ks := by rfl) (hdb : (x == ("__debug__" : Str)) = false := by decide)
    (hpl : ((PySem.backTo pos (PySem.starEach [] X.env)).any (·.1) || (PySem.backToKw pos (PySem.keywordEach kws X.env)).any (·.1.isNone)) = false := by rfl) :
    PE X (.Call (.Name x p) [] kws pos) (tMakeKSD C 0 ks.length sp gV E tNil tk) := by
  refine ⟨fun pins s σ H Q I h => ?_⟩
  refine PySem.wpAny_Call_Name_kw (ld_glob I hg hm ?_ hdb)
  refine PySem.W.callWith_KW0 (h₀ := X.base) I.ok.mod.kin M.kp hall ?_ hpl
  refine thn (hkw.run pos pins s σ H _ I h) fun ws s2 ⟨zs, H2, I2, rz, l1, l2, q2⟩ => ⟨I2.kIn, ?_⟩
  rw [hks]
  exact run_makeKSD (us := []) (vs := []) M F hr hb hx I2 .nil rz rfl l2 q2
theorem pe_makeKSD (M : Mk X.K C f) (F : FnOk X.prog X.w X.K X.mg X.base CX k f fd ps sp) (hr : Room (k + 1) X.A) (hg : Gl X x) (hm : X.mg x = some (.ref C)) (hb : KBn X.K fd ps (n + 1) ks g gV) (hx : PassM CX X E) (ha : PA X (e :: es) t) (hkw : PK X kws tk)
    (hall : (PySem.backToKw pos (PySem.keywordEach kws X.env)).all (·.1.isSome) = true := by rfl) (hks : (PySem.backToKw pos (PySem.keywordEach kws X.env)).filterMap (·.1) = ks := by rfl) (hdb : (x == ("__debug__" : Str)) = false := by decide)
    (he : PySem.starEach (e :: es) X.env = (false, PySem.eval e X.env) :: PySem.starEach es X.env := by rfl) (hpl : ((PySem.backTo pos (PySem.starEach (e :: es) X.env)).any (·.1) || (PySem.backToKw pos (PySem.keywordEach kws X.env)).any (·.1.isNone)) = false := by rfl) :
    PE X (.Call (.Name x p) (e :: es) kws pos) (tMakeKSD C n ks.length sp gV E t tk) := by
  refine ⟨fun pins s σ H Q I h => ?_⟩
  refine PySem.wpAny_Call_Name_kw (ld_glob I hg hm ?_ hdb)
  refine PySem.W.callWith_KW (h₀ := X.base) I.ok.mod.kin M.kp hall (thn (ha.run pos pins s σ H _ I h) fun us s1 ⟨vs, H1, I1, r, q⟩ => ?_) hpl he
  refine thn (hkw.run pos pins s1 σ H1 _ I1 q) fun ws s2 ⟨zs, H2, I2, rz, l1, l2, q2⟩ => ⟨I2.kIn, ?_⟩
  rw [hks]
  exact run_makeKSD M F hr hb hx I2 r rz l1 l2 q2
end
/-! ### ours -/
/-- how a call's values come to the parameters: n written by place, ks by name -/
abbrev Arr := List RV → List RV → List RV
/-- how many values there are in the end -/
def ArrN (n m N : Nat) (gS : Arr) : Prop := ∀ xs zs, xs.length = n → zs.length = m → (gS xs zs).length = N
structure KbOk (K : Frag) (fd : PySem.FuncData) (ps : List Str) (n : Nat) (ks : List Str) (gS : Arr) : Prop where
  ex : ∃ g gV, KBn K fd ps n ks g gV ∧ ∀ w xs vs zs us, RArgs K w xs vs → RArgs K w zs us → RArgs K w (gS xs zs) (gV vs us)
  num : ArrN n ks.length ps.length gS
structure DefK (P : PySem.Program) (w : PySem.World) (K : Frag) (mg : Mg) (base : PySem.Heap) (k : Nat) (y : Str) (n : Nat) (ks : List Str) (gS : Arr) (fn : Fn) : Prop where
  ex : ∃ f fd ps, mg y = some (.ref f) ∧ PySem.W.keepIn K (.ref f) = true ∧ KbOk K fd ps n ks gS ∧ FnOk P w K mg base (L2.CX P w) k f fd ps (spF K mg ps.length fn)
structure MakeK (P : PySem.Program) (w : PySem.World) (K : Frag) (mg : Mg) (base : PySem.Heap) (k : Nat) (c : Str) (n : Nat) (ks : List Str) (gS : Arr) (fn : Fn) : Prop where
  ex : ∃ C f fd ps, mg c = some (.ref C) ∧ Mk K C f ∧ KbOk K fd ps n ks gS ∧ FnOk P w K mg base (L2.CX P w) k f fd ps (spF K mg ps.length fn)
def eCallK (fn : Fn) (as ks : A) (gS : Arr) : E := fun r h => (as r h).bind fun xs h1 => (ks r h1).bind fun zs h2 => fn (gS xs zs) h2
def eMakeKw (c : Str) (fn : Fn) (as ks : A) (gS : Arr) : E := fun r h => (as r h).bind fun xs h1 => (ks r h1).bind fun zs h2 => (fn (gS (.v (.obj h2.length) :: xs) zs) (h2 ++ [.ins c []])).bind (makeK h2.length)
abbrev PKs (X : Cx) (W : WX) (kws : List PySem.Keyword) (f : A) : Prop := PK X kws (tA X.K X.mg W f)
section
variable {X : Cx} {W : WX} {pos np kpos : Pos} {e a : Expr} {es : List Expr} {kws : List PySem.Keyword} {fa : E} {fs fk : A} {k j n : Nat} {ks : List Str} {gS : Arr} {c x : Str} {fn : Fn} {nm : Option Str}
theorem PK.weak {t t' : TA} (p : PK X kws t) (c : ∀ σ H Q, t' σ H Q → t σ H Q) : PK X kws t' := ⟨fun pos pins s σ H Q I q => p.run pos pins s σ H Q I (c σ H Q q)⟩
theorem sk_nil : PKs X W [] aNil := PK.weak pk_nil fun σ H Q ⟨w, r, h, e, R, k⟩ => by
  subst e
  exact k w [] (Le.refl w) R.hp rfl
theorem sk_cons (ha : PEs X W a fa) (hr : PKs X W kws fs) : PKs X W (⟨nm, a, kpos⟩ :: kws) (aCons fa fs) :=
  PK.weak (pk_cons ha hr) fun σ H Q ⟨w, r, h, e, R, k⟩ => by
    subst e
    refine ⟨w, r, h, rfl, R, EK.cutA0 (fun x h1 w1 v1 l1 R1 q1 k1 => ?_) k⟩
    obtain ⟨w', eH, l', R', q', _⟩ := q1.arg R1 l1
    refine ⟨w', r, h1, eH, R.le l' R', AK.cutA (fun xs h2 w2 vs l2 R2 q2 k2 => ?_) (AK.le l' k1)⟩
    refine k2 w2 (v1 :: vs) (Le.refl w2) R2 ⟨v1, vs, rfl, ?_, q2⟩
    have q := q'.le R' l2
    cases x with
    | v x => exact q
    | view x => exact q
    | own x => exact q
theorem AK.cutK {K : Frag} {mg : Mg} {W : WX} {w : Rw} {σ : L2.St} {Q : VK} {Q' : List V → Hp → Prop} {f : List RV → Heap → EO RV} : ∀ {o : EO (List RV)}, (∀ x h1, o = .ok x h1 → ∀ w1 v1, Le w w1 → RHp K mg w1 h1 → RArgs K w1 x v1 → EK K mg W w1 σ Q (f x h1) → Q' v1 w1.H) →
    EK K mg W w σ Q (o.bind f) → AK K mg W w σ Q' o
  | .ok x h, c, k => fun w' v l hp q => c x h rfl w' v l hp q (EK.le l (o := f x h) k)
  | .ex e h, _, k => k
  | .no, _, k => k
theorem s_callK (D : DefK X.prog X.w X.K X.mg X.base k x n ks gS fn) (tk : Takes X W) (hr : Room j X.A) (hn : ArgN fs n) (hm : ArgN fk ks.length) (ha : PAs X W (e :: es) fs) (hkw : PKs X W kws fk)  (hk : k ≤ j := by decide) (hg : Gl X x := by rfl)
    (hall : (PySem.backToKw pos (PySem.keywordEach kws X.env)).all (·.1.isSome) = true := by rfl) (hks : (PySem.backToKw pos (PySem.keywordEach kws X.env)).filterMap (·.1) = ks := by rfl)
    (hdb : (x == ("__debug__" : Str)) = false := by decide) (he : PySem.starEach (e :: es) X.env = (false, PySem.eval e X.env) :: PySem.starEach es X.env := by rfl)
    (hpl : ((PySem.backTo pos (PySem.starEach (e :: es) X.env)).any (·.1) || (PySem.backToKw pos (PySem.keywordEach kws X.env)).any (·.1.isNone)) = false := by rfl) :
    PEs X W (.Call (.Name x np) (e :: es) kws pos) (eCallK fn fs fk gS) := by
  obtain ⟨f, fd, ps, hmg, hkp, kb, F⟩ := D.ex
  have hNN := kb.num
  obtain ⟨g, gV, hb, hrel⟩ := kb.ex
  refine PE.weak (pe_callNSD (E := WE W) F (hr.mono hk) hg hmg hkp hb (fun σ => passAt tk σ) ha hkw hall hks hdb he hpl) fun σ H Q ⟨w, r, h, eH, R, k⟩ => ?_
  subst eH
  refine ⟨w, r, h, rfl, R, ?_⟩
  unfold eCallK at k
  cases hf : fs r h with
  | no => rw [hf] at k; exact k.elim
  | ex ee h1 => rw [hf] at k; exact k
  | ok xs h1 =>
    rw [hf] at k
    intro w1 vs l1 R1 q1
    refine ⟨w1, r, h1, rfl, R.le l1 R1, ?_⟩
    have k := EK.le l1 k
    cases hf2 : fk r h1 with
    | no => rw [show ((EO.ok xs h1).bind fun xs h1 => (fk r h1).bind fun zs h2 => fn (gS xs zs) h2) = (fk r h1).bind fun zs h2 => fn (gS xs zs) h2 from rfl, hf2] at k; exact k.elim
    | ex ee h2 => rw [show ((EO.ok xs h1).bind fun xs h1 => (fk r h1).bind fun zs h2 => fn (gS xs zs) h2) = (fk r h1).bind fun zs h2 => fn (gS xs zs) h2 from rfl, hf2] at k; exact k
    | ok zs h2 =>
      rw [show ((EO.ok xs h1).bind fun xs h1 => (fk r h1).bind fun zs h2 => fn (gS xs zs) h2) = (fk r h1).bind fun zs h2 => fn (gS xs zs) h2 from rfl, hf2] at k
      intro w2 us l2 R2 q2
      have hx := hn r h xs h1 hf
      have hz := hm r h1 zs h2 hf2
      have qq := hrel w2 xs vs zs us (q1.of_le R1 l2) q2
      exact ⟨by rw [← q1.len, hx], by rw [← q2.len, hz], w2, h2, gS xs zs, rfl, R2, qq, by rw [← qq.len]; exact hNN xs zs hx hz, fk_of (EK.le l2 k)⟩
theorem make_spK {K : Frag} {mg : Mg} {W : WX} {w : Rw} {σ : L2.St} {Q : VK} {h1 : Heap} {C : Addr} {xs zs : List RV} {vs us : List V} {N : Nat} {gV : List V → List V → List V} (hC : mg c = some (.ref C)) (R : RHp K mg w h1) (q : RArgs K w xs vs) (qz : RArgs K w zs us)
    (hrel : ∀ w xs vs zs us, RArgs K w xs vs → RArgs K w zs us → RArgs K w (gS xs zs) (gV vs us)) (hl : ∀ y, (gS (y :: xs) zs).length = N)
    (k : EK K mg W w σ Q ((fn (gS (.v (.obj h1.length) :: xs) zs) (h1 ++ [.ins c []])).bind (makeK h1.length))) (x dx : Addr) (hx : w.H x = none) (hd : w.H dx = none) :
    spF K mg N fn (gV (.ref x :: vs) us) (upd (upd w.H dx (.own x)) x (.ins C dx [])) (fun v H2 => v = .non ∧ Q (.ref x) H2) (WE W σ) := by
  have lI := Le.newI (C := C) hx hd
  have RI := R.newI (C := C) hx hd
  have uI : (w.newI x dx C).out x := R.outN hx
  have pI : (w.newI x dx C).P x := .inl rfl
  have RG := RI.grow pI uI (o := .ins c []) ⟨C, dx, [], upd_same, hC, rfl⟩
  have lG : Le w ((w.newI x dx C).grow x) := lI.grow hx
  have qx : RVal K ((w.newI x dx C).grow x) (.obj h1.length) (.ref x) := ⟨by rw [R.len]; exact Nat.lt_succ_self _, by rw [R.len]; exact grow_at.symm ▸ rfl⟩
  have qq := hrel ((w.newI x dx C).grow x) (.v (.obj h1.length) :: xs) (.ref x :: vs) zs us ⟨_, vs, rfl, qx, q.of_le R lG⟩ (qz.of_le R lG)
  refine ⟨(w.newI x dx C).grow x, h1 ++ [.ins c []], gS (.v (.obj h1.length) :: xs) zs, rfl, RG, qq, by rw [← qq.len]; exact hl _, ?_⟩
  have k2 := EK.le lG k
  cases hf : fn (gS (.v (.obj h1.length) :: xs) zs) (h1 ++ [.ins c []]) with
  | no => rw [hf] at k2; exact k2.elim
  | ex e h2 => rw [hf] at k2; exact k2
  | ok y h2 =>
    rw [hf] at k2
    intro w' v l R' q'
    have k2 : EK K mg W ((w.newI x dx C).grow x) σ Q (makeK h1.length y h2) := k2
    unfold makeK at k2
    split at k2
    · have e : v = .non := q'
      exact ⟨e, k2 w' (.ref x) l R' (qx.le RG l)⟩
    · exact k2.elim
theorem s_makeK (M : MakeK X.prog X.w X.K X.mg X.base k c (n + 1) ks gS fn) (tk : Takes X W) (hr : Room j X.A) (hn : ArgN fs n) (hm : ArgN fk ks.length) (ha : PAs X W (e :: es) fs) (hkw : PKs X W kws fk)  (hk : k + 1 ≤ j := by decide) (hg : Gl X c := by rfl)
    (hall : (PySem.backToKw pos (PySem.keywordEach kws X.env)).all (·.1.isSome) = true := by rfl) (hks : (PySem.backToKw pos (PySem.keywordEach kws X.env)).filterMap (·.1) = ks := by rfl)
    (hdb : (c == ("__debug__" : Str)) = false := by decide) (he : PySem.starEach (e :: es) X.env = (false, PySem.eval e X.env) :: PySem.starEach es X.env := by rfl)
    (hpl : ((PySem.backTo pos (PySem.starEach (e :: es) X.env)).any (·.1) || (PySem.backToKw pos (PySem.keywordEach kws X.env)).any (·.1.isNone)) = false := by rfl) :
    PEs X W (.Call (.Name c np) (e :: es) kws pos) (eMakeKw c fn fs fk gS) := by
  obtain ⟨C, f, fd, ps, hC, mk, kb, F⟩ := M.ex
  have hNN := kb.num
  obtain ⟨g, gV, hb, hrel⟩ := kb.ex
  refine PE.weak (pe_makeKSD (E := WE W) mk F (hr.mono hk) hg hC hb (fun σ => passAt tk σ) ha hkw hall hks hdb he hpl) fun σ H Q ⟨w, r, h, eH, R, k⟩ => ?_
  subst eH
  refine ⟨w, r, h, rfl, R, ?_⟩
  unfold eMakeKw at k
  cases hf : fs r h with
  | no => rw [hf] at k; exact k.elim
  | ex ee h1 => rw [hf] at k; exact k
  | ok xs h1 =>
    rw [hf] at k
    intro w1 vs l1 R1 q1
    refine ⟨w1, r, h1, rfl, R.le l1 R1, ?_⟩
    have k : EK X.K X.mg W w1 σ Q ((fk r h1).bind fun zs h2 => (fn (gS (.v (.obj h2.length) :: xs) zs) (h2 ++ [.ins c []])).bind (makeK h2.length)) := EK.le l1 k
    cases hf2 : fk r h1 with
    | no => rw [hf2] at k; exact k.elim
    | ex ee h2 => rw [hf2] at k; exact k
    | ok zs h2 =>
      rw [hf2] at k
      intro w2 us l2 R2 q2
      have hx := hn r h xs h1 hf
      have hz := hm r h1 zs h2 hf2
      refine ⟨by rw [← q1.len, hx], by rw [← q2.len, hz], fun x dx hx0 hd _ => ?_⟩
      exact make_spK hC R2 (q1.of_le R1 l2) q2 hrel (fun y => hNN (y :: xs) zs (by rw [List.length_cons, hx]) hz) (EK.le l2 k) x dx hx0 hd
theorem s_makeK0 (M : MakeK X.prog X.w X.K X.mg X.base k c 1 ks gS fn) (tk : Takes X W) (hr : Room j X.A) (hm : ArgN fk ks.length) (hkw : PKs X W kws fk)  (hk : k + 1 ≤ j := by decide) (hg : Gl X c := by rfl)
    (hall : (PySem.backToKw pos (PySem.keywordEach kws X.env)).all (·.1.isSome) = true := by rfl) (hks : (PySem.backToKw pos (PySem.keywordEach kws X.env)).filterMap (·.1) = ks := by rfl)
    (hdb : (c == ("__debug__" : Str)) = false := by decide)
    (hpl : ((PySem.backTo pos (PySem.starEach [] X.env)).any (·.1) || (PySem.backToKw pos (PySem.keywordEach kws X.env)).any (·.1.isNone)) = false := by rfl) :
    PEs X W (.Call (.Name c np) [] kws pos) (eMakeKw c fn aNil fk gS) := by
  obtain ⟨C, f, fd, ps, hC, mk, kb, F⟩ := M.ex
  have hNN := kb.num
  obtain ⟨g, gV, hb, hrel⟩ := kb.ex
  refine PE.weak (pe_makeKSD0 (E := WE W) mk F (hr.mono hk) hg hC hb (fun σ => passAt tk σ) hkw hall hks hdb hpl) fun σ H Q ⟨w, r, h, eH, R, k⟩ => ?_
  subst eH
  refine ⟨w, r, h, rfl, R, ?_⟩
  have k : EK X.K X.mg W w σ Q ((fk r h).bind fun zs h2 => (fn (gS [.v (.obj h2.length)] zs) (h2 ++ [.ins c []])).bind (makeK h2.length)) := k
  cases hf2 : fk r h with
  | no => rw [hf2] at k; exact k.elim
  | ex ee h2 => rw [hf2] at k; exact k
  | ok zs h2 =>
    rw [hf2] at k
    intro w2 us l2 R2 q2
    have hz := hm r h zs h2 hf2
    refine ⟨rfl, by rw [← q2.len, hz], fun x dx hx0 hd _ => ?_⟩
    exact make_spK (xs := []) (vs := []) hC R2 rfl q2 hrel (fun y => hNN [y] zs rfl hz) (EK.le l2 k) x dx hx0 hd
end
/-! ### bodies of defs with defaults -/
theorem fn_bodyD {P : PySem.Program} {w : PySem.World} {K : Frag} {mg : Mg} {base : PySem.Heap} {x qual : Str} {st : Stmt} {N ps : List Str} {k : Nat} {body : S} {dvs : List V} {kws : List (Str × V)} {f : Addr} {fd : PySem.FuncData} (F : FunD K x qual (defArgs st) (defBody st) (defScope st) dvs kws f fd) (S : FnScope N ps (defScope st)) (hN : ps.length ≤ N.length) (hb : BodyOk P w K mg base N qual st k body) :
    FnOk P w K mg base (L2.CX P w) (k + 1) f fd ps (spF K mg ps.length (mkFn N.length body)) := by
  refine F.ok S (fun vs H Q E h => ?_) (fun cdv A outer s H vs Q E hr h => ?_)
  · obtain ⟨_, _, _, _, _, _, e, _⟩ := h
    exact e
  · obtain ⟨w', h', rs, eH, R, q, e, k'⟩ := h
    subst eH
    refine ⟨_, hb f cdv A outer s w' E hr (takes_of (E := E) rfl rfl rfl rfl) (passes_of rfl), ?_⟩
    have RE := Rel.entry (N := N) R q (by rw [e]; exact hN)
    exact ⟨w', _, h', rfl, RE, fin_ok R k'⟩
end SM

/-! SMGen: what the top has written of classes, their tables; append, extend through any expression. -/
namespace SM
open PySem (Str Expr Stmt Pos Operator CmpOp Scope)
open L2 hiding St tB tAnd tOr tNot iRng1 iRng2 iRng3
/-- a method of the text -/
structure Mt (K : Frag) (mg : Mg) (c m qual : Str) (st : Stmt) (ps : List Str) : Prop where
  ex : ∃ C f fd, mg c = some (.ref C) ∧ Cls K C ∧ Meth K C m f ∧ L2.Fun K m qual st f fd ∧ Binds K fd ps []
structure Pr (K : Frag) (mg : Mg) (c m qual : Str) (st : Stmt) (ps : List Str) : Prop where
  ex : ∃ C p f fd, mg c = some (.ref C) ∧ Cls K C ∧ PropOf K C m p f ∧ L2.Fun K m qual st f fd ∧ Binds K fd ps []
structure Ini (K : Frag) (mg : Mg) (c qual : Str) (st : Stmt) (ps : List Str) : Prop where
  ex : ∃ C f fd, mg c = some (.ref C) ∧ Mk K C f ∧ L2.Fun K "__init__" qual st f fd ∧ Binds K fd ps []
/-- with defaults; n, ks, gS: one way to call it -/
structure IniK (K : Frag) (mg : Mg) (c qual : Str) (st : Stmt) (ps : List Str) (n : Nat) (ks : List Str) (gS : Arr) : Prop where
  ex : ∃ C f fd dvs kws, mg c = some (.ref C) ∧ Mk K C f ∧ FunD K "__init__" qual (defArgs st) (defBody st) (defScope st) dvs kws f fd ∧ KbOk K fd ps n ks gS
structure DfK (K : Frag) (mg : Mg) (y x qual : Str) (st : Stmt) (ps : List Str) (n : Nat) (ks : List Str) (gS : Arr) : Prop where
  ex : ∃ f fd dvs kws, mg y = some (.ref f) ∧ PySem.W.keepIn K (.ref f) = true ∧ FunD K x qual (defArgs st) (defBody st) (defScope st) dvs kws f fd ∧ KbOk K fd ps n ks gS
section
variable {P : PySem.Program} {w : PySem.World} {K : Frag} {mg : Mg} {base : PySem.Heap} {c m x y qual : Str} {st : Stmt} {N ps ks : List Str} {k n : Nat} {body : S} {gS : Arr}
theorem meth_ok (D : Mt K mg c m qual st ps) (S : FnScope N ps (defScope st)) (hN : ps.length ≤ N.length) (hb : BodyOk P w K mg base N qual st k body) : MethOk P w K mg base (k + 1) c m ps.length (mkFn N.length body) := by
  obtain ⟨C, f, fd, h1, h2, h3, F, b⟩ := D.ex
  exact ⟨C, f, fd, ps, h1, h2, h3, b, fn_body F S hN hb⟩
theorem prop_ok (D : Pr K mg c m qual st ps) (h1 : ps.length = 1) (S : FnScope N ps (defScope st)) (hN : ps.length ≤ N.length) (hb : BodyOk P w K mg base N qual st k body) : PropOk P w K mg base (k + 1) c m (mkFn N.length body) := by
  obtain ⟨C, p, f, fd, e1, e2, e3, F, b⟩ := D.ex
  have := fn_body F S hN hb
  rw [h1] at this
  exact ⟨C, p, f, fd, ps, e1, e2, e3, b, this⟩
theorem ini_ok (D : Ini K mg c qual st ps) (S : FnScope N ps (defScope st)) (hN : ps.length ≤ N.length) (hb : BodyOk P w K mg base N qual st k body) : MakeOk P w K mg base (k + 1) c ps.length (mkFn N.length body) := by
  obtain ⟨C, f, fd, h1, h2, F, b⟩ := D.ex
  exact ⟨C, f, fd, ps, h1, h2, b, fn_body F S hN hb⟩
theorem iniK_ok (D : IniK K mg c qual st ps n ks gS) (S : FnScope N ps (defScope st)) (hN : ps.length ≤ N.length) (hb : BodyOk P w K mg base N qual st k body) : MakeK P w K mg base (k + 1) c n ks gS (mkFn N.length body) := by
  obtain ⟨C, f, fd, dvs, kws, h1, h2, F, b⟩ := D.ex
  exact ⟨C, f, fd, ps, h1, h2, b, fn_bodyD F S hN hb⟩
theorem defK_ok (D : DfK K mg y x qual st ps n ks gS) (S : FnScope N ps (defScope st)) (hN : ps.length ≤ N.length) (hb : BodyOk P w K mg base N qual st k body) : DefK P w K mg base (k + 1) y n ks gS (mkFn N.length body) := by
  obtain ⟨f, fd, dvs, kws, h1, h2, F, b⟩ := D.ex
  exact ⟨f, fd, ps, h1, h2, b, fn_bodyD F S hN hb⟩
end
/-! ### tables -/
theorem mt_nil {p : Str → Fn → Prop} : ∀ c f, ([] : MTab).lookup c = some f → p c f := fun _ _ e => nomatch (show Option.none = some _ from e)
theorem mt_cons {p : Str → Fn → Prop} {c : Str} {f : Fn} {tb : MTab} (h : p c f) (r : ∀ c f, tb.lookup c = some f → p c f) : ∀ c' f', ((c, f) :: tb).lookup c' = some f' → p c' f' := fun c' f' e => by
  rw [List.lookup_cons] at e
  by_cases hc : c' = c
  · subst hc
    rw [beq_self_eq_true] at e
    have e : some f = some f' := e
    cases e
    exact h
  · rw [show (c' == c) = false from beq_false_of_ne hc] at e
    exact r c' f' e
theorem mt_ne {c : Str} {f : Fn} {tb : MTab} : ∃ c0 f0, ((c, f) :: tb).lookup c0 = some f0 := ⟨c, f, by rw [List.lookup_cons, beq_self_eq_true]⟩
theorem cs_nil {p : Str → Prop} : ∀ c, c ∈ ([] : List Str) → p c := fun _ h => nomatch h
theorem cs_cons {p : Str → Prop} {c : Str} {cs : List Str} (h : p c) (r : ∀ c, c ∈ cs → p c) : ∀ c', c' ∈ c :: cs → p c' := fun c' hc => (List.mem_cons.mp hc).elim (fun e => e ▸ h) (r c')
section
variable {K : Frag} {mg : Mg} {tab : Hit} {cv : PySem.Value} {y : Str} {b : Bool} {C : Addr}
theorem hit_nil : HitOk K mg [] cv := fun _ _ _ e => nomatch (show Option.none = some _ from e)
theorem hit_cons (e : mg y = some (.ref C)) (f : PySem.W.exmOne K (.ref C) cv = some b) (r : HitOk K mg tab cv) : HitOk K mg ((y, b) :: tab) cv := fun z b' D h hD => by
  rw [List.lookup_cons] at h
  by_cases hc : z = y
  · subst hc
    rw [beq_self_eq_true] at h
    have h : some b = some b' := h
    cases h
    rw [e] at hD
    cases hD
    exact f
  · rw [show (z == y) = false from beq_false_of_ne hc] at h
    exact r z b' D h hD
theorem kit_nil : KitT K mg [] cv := fun _ _ _ e => nomatch (show Option.none = some _ from e)
theorem kit_cons (e : mg y = some (.ref C)) (f : PySem.W.kitOne K (.ref C) cv = some b) (x : ExcC K C) (r : KitT K mg tab cv) : KitT K mg ((y, b) :: tab) cv := fun z b' D h hD => by
  rw [List.lookup_cons] at h
  by_cases hc : z = y
  · subst hc
    rw [beq_self_eq_true] at h
    have h : some b = some b' := h
    cases h
    rw [e] at hD
    cases hD
    exact ⟨f, x⟩
  · rw [show (z == y) = false from beq_false_of_ne hc] at h
    exact r z b' D h hD
end
/-- an except clause's class, an isinstance's class -/
structure Hc (K : Frag) (mg : Mg) (c : Str) (tab : Hit) : Prop where
  ex : ∃ C, mg c = some (.ref C) ∧ HitOk K mg tab (.ref C)
structure Kc (K : Frag) (mg : Mg) (c : Str) (tab : Hit) : Prop where
  ex : ∃ C, mg c = some (.ref C) ∧ KitT K mg tab (.ref C)
section
variable {X : Cx} {W : WX} {w0 : Rw} {M0 : Addr → Prop} {x n c : Str} {i : Nat} {body suite : List Stmt} {b₀ : Stmt} {np pos pos' p cp : Pos} {fb : S} {hit tab : Hit} {a : Addr} {oe : PySem.Obj} {cls : PySem.Value} {d : Option Addr} {pn : List (Addr × PySem.Obj)} {ex : Exn} {e : Expr} {fe : E}
theorem b_tryAsC {su : Exn → Nat → Nat → S} (H : Hc X.K X.mg x hit) (hN : X.N.Nodup) (tk : Takes X W)
    (hb : ∀ (W' : WX) (pn : List (Addr × PySem.Obj)) (xe : PySem.Value → PySem.Shared → Prop), Takes (X.tr pn xe) W' → PySem.PassesOwn (PySem.model X.prog X.w) X.A X.env xe → PBs (X.tr pn xe) W' w0 M0 body fb)
    (hsu : ∀ (a : Addr) (oe : PySem.Obj) (cls : PySem.Value) (d : Option Addr) (pn : List (Addr × PySem.Obj)) (ex : Exn), Zc cls d oe → (∃ vs, oe.data = .fields vs) → ExAt X.K X.mg ex cls → (ex.args = [] → d = none) → PBs (X.suite a ((a, oe) :: pn)) W0 w0 M0 (b₀ :: suite) (su ex a (d.getD 0)))
    (hi : X.N[i]? = some n := by rfl) (hln : X.env.kindOf n = some .local := by rfl) (hg : Gl X x := by rfl) (hdb : (x == ("__debug__" : Str)) = false := by decide) (hs : X.stack = X.env :: X.outer := by rfl) (hf : X.env.frame = some X.env.locals := by rfl) :
    PSs' X W w0 M0 (.Try body [.ExceptHandler (some (.Name x np)) (some n) (b₀ :: suite) pos'] [] [] pos) (sTryAs i hit fb su) := by
  obtain ⟨C, hC, hh⟩ := H.ex
  exact b_tryAs hs hf hN hi hln ⟨hg, hdb, .inl hC⟩ tk hh hb hsu
theorem b_tryC {su : Exn → S} (H : Hc X.K X.mg x hit) (tk : Takes X W)
    (hb : ∀ (W' : WX) (pn : List (Addr × PySem.Obj)) (xe : PySem.Value → PySem.Shared → Prop), Takes (X.tr pn xe) W' → PySem.PassesOwn (PySem.model X.prog X.w) X.A X.env xe → PBs (X.tr pn xe) W' w0 M0 body fb)
    (hsu : ∀ (a : Addr) (oe : PySem.Obj) (cls : PySem.Value) (d : Option Addr) (pn : List (Addr × PySem.Obj)) (ex : Exn), Zc cls d oe → (∃ vs, oe.data = .fields vs) → ExAt X.K X.mg ex cls → (ex.args = [] → d = none) → PBs (X.suite a ((a, oe) :: pn)) W0 w0 M0 (b₀ :: suite) (su ex))
    (hg : Gl X x := by rfl) (hdb : (x == ("__debug__" : Str)) = false := by decide) (hs : X.stack = X.env :: X.outer := by rfl) (hf : X.env.frame = some X.env.locals := by rfl) :
    PSs' X W w0 M0 (.Try body [.ExceptHandler (some (.Name x np)) none (b₀ :: suite) pos'] [] [] pos) (sTry hit fb su) := by
  obtain ⟨C, hC, hh⟩ := H.ex
  exact b_try hs hf ⟨hg, hdb, .inl hC⟩ tk hh hb hsu
theorem s_exIsC (H : Kc X.K X.mg c tab) (hz : Zc cls d oe) (hf : ∃ vs, oe.data = .fields vs) (hE : ExAt X.K X.mg ex cls) (hed : ex.args = [] → d = none)
    (ha : PEs (X.suite a ((a, oe) :: pn)) W e fe) (hm : X.mg "isinstance" = none) (hg : Gl (X.suite a ((a, oe) :: pn)) "isinstance" := by rfl) (hg2 : Gl (X.suite a ((a, oe) :: pn)) c := by rfl) (hdb : (c == ("__debug__" : Str)) = false := by decide)
    (hs : PySem.starEach [e, .Name c cp] (X.suite a ((a, oe) :: pn)).env = (false, PySem.eval e (X.suite a ((a, oe) :: pn)).env) :: PySem.starEach [.Name c cp] (X.suite a ((a, oe) :: pn)).env := by rfl) : PEs (X.suite a ((a, oe) :: pn)) W (.Call (.Name "isinstance" p) [e, .Name c cp] [] pos) (e1 (fErrIs a ex (tab.lookup ex.cls)) fe) := by
  obtain ⟨C, hC, hk⟩ := H.ex
  exact s_exIs hz hf hE hed hC hk ha hm hg hg2 hdb hs
end
/-! ### keyword-only parameters: ways to call -/
theorem RArgs.append {K : Frag} {w : Rw} : ∀ {xs ys : List RV} {vs us : List V}, RArgs K w xs vs → RArgs K w ys us → RArgs K w (xs ++ ys) (vs ++ us)
  | [], _, _, _, q, q' => by
    have e : _ = [] := q
    subst e
    exact q'
  | _ :: _, _, _, _, ⟨y, r, e, q1, q2⟩, q' => by
    subst e
    exact ⟨y, r ++ _, rfl, q1, RArgs.append q2 q'⟩
abbrev arA (ds : List RV) : Arr := fun xs zs => xs ++ (zs ++ ds)
abbrev arB (ds : List RV) : Arr := fun xs zs => xs ++ (ds ++ zs)
theorem arr_A {n m N : Nat} {ds : List RV} (h : n + (m + ds.length) = N) : ArrN n m N (arA ds) := fun xs zs h1 h2 => by rw [List.length_append, List.length_append, h1, h2]; exact h
theorem arr_B {n m N : Nat} {ds : List RV} (h : n + (ds.length + m) = N) : ArrN n m N (arB ds) := fun xs zs h1 h2 => by rw [List.length_append, List.length_append, h1, h2]; exact h
/-- defaults as values: they hold in every world -/
def DflR (K : Frag) (ds : List RV) (vs : List V) : Prop := ∀ w, RArgs K w ds vs
theorem dfl_nil {K : Frag} : DflR K [] [] := fun _ => rfl
theorem dfl_cons {K : Frag} {d : Val} {v : V} {ds : List RV} {vs : List V} (h : ∀ w, RVal K w d v) (r : DflR K ds vs) : DflR K (.v d :: ds) (v :: vs) := fun w => ⟨v, vs, rfl, h w, r w⟩
section
variable {K : Frag} {x qual : Str} {params : PySem.Arguments} {body : List Stmt} {scope : Scope} {kws : List (Str × V)} {f : Addr} {fd : PySem.FuncData} {ps ks : List Str} {n : Nat} {ms : List (Str × V)} {ds : List RV}
theorem kb_A (F : FunD K x qual params body scope [] kws f fd) (hk : kws ≠ []) (hms : ∀ q ∈ ms, q ∈ kws) (hd : DflR K ds (ms.map (·.2))) (hN : n + (ks.length + ds.length) = ps.length)
    (h : ∀ (D : Addr) (doc pm : PySem.Value) (an : Option Addr) (cdv ct : PySem.Value) (us mv ws : List PySem.Value), us.length = n → mv.length = ms.length → ws.length = ks.length →
      KwChain D ((ms.map (·.1)).zip mv) (PySem.bindArgs (PySem.W.fnOf x qual params body scope .none (.ref D) doc pm an cdv ct) ⟨us, ks.zip ws⟩) (ps.zip (us ++ (ws ++ mv)))) : KbOk K fd ps n ks (arA ds) := by
  obtain ⟨mv, hb⟩ := F.kbinds0 n ks ms (fun us mv ws => us ++ (ws ++ mv)) hk hms (fun r1 r2 r3 => r1.append (r3.append r2)) h
  exact ⟨⟨_, _, hb, fun w xs vs zs us q1 q2 => q1.append (q2.append (hd w))⟩, arr_A hN⟩
theorem kb_B (F : FunD K x qual params body scope [] kws f fd) (hk : kws ≠ []) (hms : ∀ q ∈ ms, q ∈ kws) (hd : DflR K ds (ms.map (·.2))) (hN : n + (ds.length + ks.length) = ps.length)
    (h : ∀ (D : Addr) (doc pm : PySem.Value) (an : Option Addr) (cdv ct : PySem.Value) (us mv ws : List PySem.Value), us.length = n → mv.length = ms.length → ws.length = ks.length →
      KwChain D ((ms.map (·.1)).zip mv) (PySem.bindArgs (PySem.W.fnOf x qual params body scope .none (.ref D) doc pm an cdv ct) ⟨us, ks.zip ws⟩) (ps.zip (us ++ (mv ++ ws)))) : KbOk K fd ps n ks (arB ds) := by
  obtain ⟨mv, hb⟩ := F.kbinds0 n ks ms (fun us mv ws => us ++ (mv ++ ws)) hk hms (fun r1 r2 r3 => r1.append (r2.append r3)) h
  exact ⟨⟨_, _, hb, fun w xs vs zs us q1 q2 => q1.append ((hd w).append q2)⟩, arr_B hN⟩
/-- a def with keyword-only parameters, as the top has left it -/
theorem funD_kw {D : Addr} {oc doc pm cdv ct : PySem.Value} {od an : Option Addr} {osl : Array (Option PySem.Value)} (l : K.lookup f = some ⟨oc, od, .func (PySem.W.fnOf x qual params body scope .none (.ref D) doc pm an cdv ct), osl⟩) (c : PySem.W.codeIn K cdv qual = true) (e : PySem.W.keepIn K (.ref f) = true)
    (hq : ∀ q ∈ kws, ∃ u, PySem.W.nsIn K D q.1 = some (some u) ∧ RelV q.2 u) : FunD K x qual params body scope [] kws f (PySem.W.fnOf x qual params body scope .none (.ref D) doc pm an cdv ct) :=
  ⟨⟨oc, od, .none, .ref D, doc, pm, an, cdv, ct, osl, rfl, l, c, .inl ⟨rfl, rfl⟩, .inr ⟨D, rfl, hq⟩⟩, e⟩
theorem kq_nil {D : Addr} : ∀ q ∈ ([] : List (Str × V)), ∃ u, PySem.W.nsIn K D q.1 = some (some u) ∧ RelV q.2 u := fun _ h => nomatch h
theorem kq_cons {D : Addr} {y : Str} {v : V} {u : PySem.Value} (h : PySem.W.nsIn K D y = some (some u)) (r : RelV v u) (t : ∀ q ∈ kws, ∃ u, PySem.W.nsIn K D q.1 = some (some u) ∧ RelV q.2 u) : ∀ q ∈ (y, v) :: kws, ∃ u, PySem.W.nsIn K D q.1 = some (some u) ∧ RelV q.2 u := fun q hq => by
  rcases List.mem_cons.mp hq with e | e
  · rw [e]
    exact ⟨u, h, r⟩
  · exact t q e
end
section
open PySem.W
variable {K : Frag} {C D : Addr} {b : Bool} {T : String}
theorem kit_same : kitOne K (.ref C) (.ref C) = some true := by
  unfold kitOne
  rw [if_pos (beq_self_eq_true _)]
theorem kit_ref (hd : hasDictIn K C = true) (ht : typeIn K (.ref C) = some (.type "type")) (hcc : subIn K (.ref C) (.ref C) = some true) (h4 : subIn K (.ref D) (.ref C) = some b) : kitOne K (.ref D) (.ref C) = some b := by
  by_cases e : D = C
  · subst e
    rw [hcc] at h4
    cases h4
    exact kit_same
  · obtain ⟨cd, hc, _⟩ := any_some hd
    unfold kitOne kitCls
    rw [if_neg (fun z => e (PySem.Value.ref.inj (beq_iff_eq.mp z)))]
    have e2 : ((clsIn K C).isSome && typeIn K (.ref C) == some (.type "type")) = true := by rw [hc, ht]; rfl
    dsimp only
    rw [if_pos e2]
    exact h4
theorem kit_type (hm : kitMeta T = true) (h4 : subIn K (.ref D) (.type T) = some b) : kitOne K (.ref D) (.type T) = some b := by
  unfold kitOne kitCls
  rw [if_neg (by simp)]
  dsimp only
  rw [if_pos hm]
  exact h4
end
/-! ### o.append(e), o.extend(e): o any expression that gives a list of the heap -/
def appHj (r : Env) (m : Nat) : RV → Heap → SO := fun x h2 => match x.keep with
  | some y => match h2[m]? with
    | some (.lst xs) => if xs.length < line then .nx r (h2.set m (.lst (xs ++ [y]))) else .no
    | _ => .no
  | none => .no
def appHk (a : E) (r : Env) : RV → Heap → SO := fun p h1 => match p with
  | .v (.obj m) => match h1[m]? with
    | some (.lst _) => (a r h1).then r (appHj r m)
    | _ => .no
  | _ => .no
def sAppHp (o a : E) : S := fun r h => (o r h).then r (appHk a r)
section
variable {X : Cx} {W : WX} {w0 : Rw} {M0 : Addr → Prop} {a o : Expr} {fa fo : E}
theorem b_appHp {p2 p3 p4 : Pos} (ho : PEs X W o fo) (ha : PEs X W a fa) (hbase : PySem.attributeBase o "append" X.env (PySem.eval o X.env) = PySem.eval o X.env := by rfl)
    (hfew : ((PySem.backTo p3 (PySem.starEach [a] X.env)).all (fun x => !x.1) && (PySem.backToKw p3 (PySem.keywordEach [] X.env)).all (fun x => x.1.isSome)
      && decide ([a].length + ([] : List PySem.Keyword).length + (if ([] : List PySem.Keyword).isEmpty then 0 else 1) < 30)) = true := by rfl)
    (hline : (p2.endLine == p3.line) = true := by rfl) (hs : PySem.starEach [a] X.env = (false, PySem.eval a X.env) :: PySem.starEach [] X.env := by rfl) (hplain : (PySem.backTo p3 (PySem.starEach [] X.env)).any (·.1) = false := by rfl)
    (hsw : PySem.swapsWith (.Call (.Attribute o "append" p2) [a] [] p3) none p4.line X.env = pure false := by rfl) :
    PSs' X W w0 M0 (.Expr (.Call (.Attribute o "append" p2) [a] [] p3) p4) (sAppHp fo fa) :=
  PS.weak (ps_expr (pe_bm PySem.F.plainAttrs_list PySem.F.slot_list_append PySem.F.type_list_append mt_append ho (pa_cons ha pa_nil hs) hbase hfew hline hs hplain) hsw) fun D σ H ⟨w, r, h, e, R, k⟩ => by
    subst e
    refine ⟨w, r, h, rfl, R.rel, SK.cut R (fun p h1 w1 v1 l1 R1 q1 k1 => ?_) k⟩
    unfold appHk at k1
    split at k1
    · rename_i m
      split at k1
      · rename_i zs hz0
        obtain ⟨hk, ev⟩ := res_obj q1
        subst ev
        obtain ⟨us, eu, qu⟩ := R1.obj m _ hz0
        refine ⟨.inl ⟨rfl, us, .of eu⟩, w1, r, h1, rfl, R.rel.le l1 R1, SK.cut (R.le' l1 R1) (fun x h2 w2 v2 l2 R2 q2 k2 => ?_) k1⟩
        unfold appHj at k2
        split at k2
        · rename_i y hy
          split at k2
          · rename_i xs hm
            split at k2
            · rename_i hz
              obtain ⟨w3, eH, l3, R3, q3⟩ := q2.keep R2 l2 hy
              obtain ⟨ys, ey, qy⟩ := R3.obj m _ hm
              have eio : w3.io m = w1.io m := l3.io m hk
              refine ⟨w1.io m, ys, v2, rfl, rfl, by rw [← eH, ← eio]; exact ey, by rw [← qy.length]; exact hz, ?_⟩
              have := k2 (w3.updO (w3.io m) _) σ ((R.le' (l1.trans l3) R3).le' (Le.upd_obj (Nat.lt_of_lt_of_le hk l3.n)) (R3.upd_obj hm (qy.append (RVals.one q3))))
              unfold Rw.updO at this
              rw [eH, eio] at this
              exact this
            · exact k2.elim
          · exact k2.elim
        · exact k2.elim
      · exact k1.elim
    · exact k1.elim
end
end SM

/-! SMCalc: working the machine by hand: ends of calls, loops by an invariant, comprehensions, equality of data, numbers of bits. -/
namespace SM
open PySem (Str PyData)
/-! ### the end of a call -/
theorem fin_len {h h' : Heap} {x : RV} (e : h'.length = h.length) : fin h (.rt x h') = .ok x h' := by
  unfold fin
  dsimp only
  split
  · rw [← e, List.take_length]
  · rfl
theorem fin_lenN {h h' : Heap} {r : Env} (e : h'.length = h.length) : fin h (.nx r h') = .ok (.v .none) h' := by
  unfold fin
  dsimp only
  split
  · rw [← e, List.take_length]
  · rfl
theorem fin_self {h : Heap} {x : RV} : fin h (.rt x h) = .ok x h := fin_len rfl
theorem fin_selfN {h : Heap} {r : Env} : fin h (.nx r h) = .ok (.v .none) h := fin_lenN rfl
theorem shr_app {h g new : Heap} (e : g.length = h.length) (u : ∀ i o, i < h.length → g[i]? = some o → h[i]? = some o ∨ o.under h.length) : Shr h (g ++ new) := by
  refine ⟨by rw [List.length_append]; omega, fun i o hi q => ?_⟩
  rw [List.getElem?_append_left (by omega)] at q
  exact u i o hi q
theorem fin_app {h g new : Heap} {x : RV} (e : g.length = h.length) (u : ∀ i o, i < h.length → g[i]? = some o → h[i]? = some o ∨ o.under h.length) (hx : x.under h.length) : fin h (.rt x (g ++ new)) = .ok x g := by
  unfold fin
  dsimp only
  rw [if_pos ⟨shr_app e u, hx⟩, ← e, List.take_left]
theorem fin_appN {h g new : Heap} {r : Env} (e : g.length = h.length) (u : ∀ i o, i < h.length → g[i]? = some o → h[i]? = some o ∨ o.under h.length) : fin h (.nx r (g ++ new)) = .ok (.v .none) g := by
  unfold fin
  dsimp only
  rw [if_pos (shr_app e u), ← e, List.take_left]
theorem fin_new {h new : Heap} {x : RV} (hx : x.under h.length) : fin h (.rt x (h ++ new)) = .ok x h := fin_app rfl (fun _ _ _ q => .inl q) hx
theorem fin_newN {h new : Heap} {r : Env} : fin h (.nx r (h ++ new)) = .ok (.v .none) h := fin_appN rfl (fun _ _ _ q => .inl q)
/-! ### loops -/
theorem Same.refl (dep : List Nat) (h : Heap) : Same dep h h := fun _ _ => rfl
theorem chkS_of {dep : List Nat} {h0 h : Heap} {k : SO} (s : Same dep h0 h) : chkS dep h0 h k = k := by
  cases dep with
  | nil => rfl
  | cons n ns => exact if_pos s
theorem chkE_of {α : Type} {dep : List Nat} {h0 h : Heap} {k : EO α} (s : Same dep h0 h) : chkE dep h0 h k = k := by
  cases dep with
  | nil => rfl
  | cons n ns => exact if_pos s
/-- the loop runs through -/
theorem forL_ok {g : Tg} {b : S} {dep : List Nat} {h0 : Heap} {P : Nat → Env → Heap → Prop} (hs : ∀ i r h, P i r h → Same dep h0 h) : ∀ (xs : List Val) (i : Nat) (r : Env) (h : Heap), P i r h →
    (∀ (k : Nat) (x : Val) (r : Env) (h : Heap), xs[k]? = some x → P (i + k) r h → ∃ r1, g.put x r = some r1 ∧ ∃ r2 h2, (b r1 h = .nx r2 h2 ∨ b r1 h = .ct r2 h2) ∧ P (i + k + 1) r2 h2) →
    ∃ r2 h2, forL g b dep h0 xs r h = .nx r2 h2 ∧ P (i + xs.length) r2 h2
  | [], i, r, h, p, _ => ⟨r, h, chkS_of (hs i r h p), p⟩
  | x :: xs, i, r, h, p, st => by
    obtain ⟨r1, e1, r2, h2, eb, p2⟩ := st 0 x r h rfl p
    obtain ⟨r3, h3, e3, p3⟩ := forL_ok hs xs (i + 1) r2 h2 p2 fun k y r h hk q => by
      have := st (k + 1) y r h hk (by rw [show i + (k + 1) = i + 1 + k by omega]; exact q)
      rw [show i + (k + 1) = i + 1 + k by omega] at this
      exact this
    refine ⟨r3, h3, ?_, by rw [List.length_cons, show i + (xs.length + 1) = i + 1 + xs.length by omega]; exact p3⟩
    show chkS dep h0 h (match g.put x r with
      | some r1 => (b r1 h).turn (forL g b dep h0 xs)
      | none => .no) = _
    rw [chkS_of (hs i r h p), e1]
    show (b r1 h).turn _ = _
    rcases eb with eb | eb
    · rw [eb]; exact e3
    · rw [eb]; exact e3
/-- .. from its first turn on, nothing of the heap stands behind the items -/
theorem for_ok {g : Tg} {it : I} {b : S} {r : Env} {h h1 : Heap} {xs : List Val} (P : Nat → Env → Heap → Prop) (hi : it r h = .ok (xs, []) h1) (p : P 0 r h1)
    (st : ∀ (k : Nat) (x : Val) (r : Env) (h : Heap), xs[k]? = some x → P k r h → ∃ r1, g.put x r = some r1 ∧ ∃ r2 h2, (b r1 h = .nx r2 h2 ∨ b r1 h = .ct r2 h2) ∧ P (k + 1) r2 h2) :
    ∃ r2 h2, sFor g it b r h = .nx r2 h2 ∧ P xs.length r2 h2 := by
  obtain ⟨r2, h2, e, p2⟩ := forL_ok (dep := []) (h0 := h1) (g := g) (b := b) (P := P) (fun _ _ _ _ _ hn => by cases hn) xs 0 r h1 p (by simpa using st)
  refine ⟨r2, h2, ?_, by simpa using p2⟩
  unfold sFor
  rw [hi]
  exact e
/-- a comprehension of all items -/
theorem lcGo_ok {g : Tg} {e : E} {r : Env} {dep : List Nat} {h0 : Heap} {P : Nat → List Val → Heap → Prop} (hs : ∀ i acc h, P i acc h → Same dep h0 h) : ∀ (xs : List Val) (i : Nat) (acc : List Val) (h : Heap), P i acc h →
    (∀ (k : Nat) (x : Val) (acc : List Val) (h : Heap), xs[k]? = some x → P (i + k) acc h → ∃ r1, g.put x r = some r1 ∧ ∃ y h2 z, e r1 h = .ok y h2 ∧ y.keep = some z ∧ P (i + k + 1) (acc ++ [z]) h2) →
    ∃ acc2 h2, lcGo g tYes e r dep h0 xs acc h = .ok (.own acc2) h2 ∧ P (i + xs.length) acc2 h2
  | [], i, acc, h, p, _ => ⟨acc, h, chkE_of (hs i acc h p), p⟩
  | x :: xs, i, acc, h, p, st => by
    obtain ⟨r1, e1, y, h2, z, eb, ek, p2⟩ := st 0 x acc h rfl p
    obtain ⟨acc3, h3, e3, p3⟩ := lcGo_ok hs xs (i + 1) (acc ++ [z]) h2 p2 fun k y acc h hk q => by
      have := st (k + 1) y acc h hk (by rw [show i + (k + 1) = i + 1 + k by omega]; exact q)
      rw [show i + (k + 1) = i + 1 + k by omega] at this
      exact this
    refine ⟨acc3, h3, ?_, by rw [List.length_cons, show i + (xs.length + 1) = i + 1 + xs.length by omega]; exact p3⟩
    show chkE dep h0 h _ = _
    rw [chkE_of (hs i acc h p), e1]
    show (match e r1 h with
      | .ok y h2 => match y.keep with
        | some z => lcGo g tYes e r dep h0 xs (acc ++ [z]) h2
        | none => .no
      | _ => .no) = _
    rw [eb]
    show (match y.keep with
        | some z => lcGo g tYes e r dep h0 xs (acc ++ [z]) h2
        | none => .no) = _
    rw [ek]
    exact e3
theorem lc_ok {own : List Nat} {g : Tg} {it : I} {e : E} {r : Env} {h h1 : Heap} {xs : List Val} {dep : List Nat} (P : Nat → List Val → Heap → Prop) (hi : it r h = .ok (xs, dep) h1) (hz : xs.length ≤ line) (hs : ∀ i acc h, P i acc h → Same dep h1 h) (p : P 0 [] h1)
    (st : ∀ (k : Nat) (x : Val) (acc : List Val) (h : Heap), xs[k]? = some x → P k acc h → ∃ r1, g.put x (wipeE r own) = some r1 ∧ ∃ y h2 z, e r1 h = .ok y h2 ∧ y.keep = some z ∧ P (k + 1) (acc ++ [z]) h2) :
    ∃ acc2 h2, eLc own g it tYes e r h = .ok (.own acc2) h2 ∧ P xs.length acc2 h2 := by
  obtain ⟨acc2, h2, q, p2⟩ := lcGo_ok (g := g) (e := e) (r := wipeE r own) (P := P) hs xs 0 [] h1 p (by simpa using st)
  refine ⟨acc2, h2, ?_, by simpa using p2⟩
  unfold eLc
  rw [hi]
  exact (if_pos hz).trans q
/-- .. whose step is a function of the item -/
theorem lc_map {own : List Nat} {g : Tg} {it : I} {e : E} {r : Env} {h h1 : Heap} {xs : List Val} {dep : List Nat} (F : Val → Val) (hi : it r h = .ok (xs, dep) h1) (hz : xs.length ≤ line)
    (st : ∀ x, x ∈ xs → ∃ r1, g.put x (wipeE r own) = some r1 ∧ e r1 h1 = .ok (.v (F x)) h1) : eLc own g it tYes e r h = .ok (.own (xs.map F)) h1 := by
  obtain ⟨acc, h2, q, p1, p2⟩ := lc_ok (own := own) (g := g) (e := e) (P := fun k acc h => acc = (xs.take k).map F ∧ h = h1) hi hz (fun i acc h p => by rw [p.2]; exact Same.refl _ _) ⟨rfl, rfl⟩ fun k x acc h hk ⟨p1, p2⟩ => by
    subst p1 p2
    obtain ⟨r1, e1, e2⟩ := st x (List.mem_of_getElem? hk)
    refine ⟨r1, e1, _, _, _, e2, rfl, ?_, rfl⟩
    rw [List.take_add_one, hk, List.map_append]
    rfl
  rw [q, p1, p2, List.take_length]
/-! ### lists of numbers -/
abbrev vInts (ns : List Int) : List Val := ns.map .int
abbrev vNats (ns : List Nat) : List Val := ns.map fun n : Nat => Val.int (n : Int)
abbrev dInts (ns : List Int) : List PyData := ns.map .int
theorem toDs_ints : ∀ ns : List Int, toDs (vInts ns) = some (dInts ns)
  | [] => by unfold toDs; rfl
  | n :: ns => by
    show toDs (.int n :: vInts ns) = _
    unfold toDs
    rw [toDs_ints ns]
    unfold toD
    rfl
theorem lay_ints : ∀ ns : List Int, PyData.canLayAll0 (dInts ns) = true
  | [] => by unfold PyData.canLayAll0; rfl
  | n :: ns => by
    show PyData.canLayAll0 (.int n :: dInts ns) = true
    unfold PyData.canLayAll0
    rw [lay_ints ns]
    unfold PyData.canLay0
    rfl
theorem eqv_ints : ∀ ns ms : List Int, PyData.eqvAll (dInts ns) (dInts ms) = decide (ns = ms)
  | [], [] => by unfold PyData.eqvAll; simp
  | [], _ :: _ => by
    show PyData.eqvAll [] (.int _ :: _) = _
    unfold PyData.eqvAll; simp
  | _ :: _, [] => by
    show PyData.eqvAll (.int _ :: _) [] = _
    unfold PyData.eqvAll; simp
  | n :: ns, m :: ms => by
    show PyData.eqvAll (.int n :: dInts ns) (.int m :: dInts ms) = _
    unfold PyData.eqvAll
    rw [eqv_ints ns ms]
    unfold PyData.eqv
    by_cases h : n = m
    · subst h; simp
    · simp [h]
theorem depth_ints : ∀ ns : List Int, PyData.depthAll (dInts ns) = 0
  | [] => by unfold PyData.depthAll; rfl
  | n :: ns => by
    show PyData.depthAll (.int n :: dInts ns) = 0
    unfold PyData.depthAll
    rw [depth_ints ns]
    unfold PyData.depth
    rfl
theorem shaped_tup (ns : List Int) : PySem.SeqAt.shaped (.tuple (dInts ns)) = true := by
  unfold PySem.SeqAt.shaped PyData.canLay0 PyData.depth
  rw [lay_ints, depth_ints]
  rfl
theorem shaped_lst (ns : List Int) : PySem.SeqAt.shaped (.list (dInts ns)) = true := by
  unfold PySem.SeqAt.shaped PyData.canLay0 PyData.depth
  rw [lay_ints, depth_ints]
  rfl
end SM
namespace SM
open PySem (Str PyData)
/-! ### operations, one by one -/
section
variable {h : Heap} {a b : Int} {n : Nat} {xs ys : List Val} {x : Val}
theorem add_ii : fAdd h (.v (.int a)) (.v (.int b)) = some (.v (.int (a + b))) := (Eq.refl _).trans (Eq.refl _)
theorem sub_ii : fSub h (.v (.int a)) (.v (.int b)) = some (.v (.int (a - b))) := (Eq.refl _).trans (Eq.refl _)
theorem and_ii : fAnd h (.v (.int a)) (.v (.int b)) = some (.v (.int (PySem.Builtin.bitAnd a b))) := (Eq.refl _).trans (Eq.refl _)
theorem or_ii : fOr h (.v (.int a)) (.v (.int b)) = some (.v (.int (PySem.Builtin.bitOr a b))) := (Eq.refl _).trans (Eq.refl _)
theorem xor_ii : fXor h (.v (.int a)) (.v (.int b)) = some (.v (.int (PySem.Builtin.bitXor a b))) := (Eq.refl _).trans (Eq.refl _)
theorem lt_ii : fLt h (.v (.int a)) (.v (.int b)) = some (.v (.bool (decide (a < b)))) := (Eq.refl _).trans (Eq.refl _)
theorem le_ii : fLe h (.v (.int a)) (.v (.int b)) = some (.v (.bool (decide (a ≤ b)))) := (Eq.refl _).trans (Eq.refl _)
theorem gt_ii : fGt h (.v (.int a)) (.v (.int b)) = some (.v (.bool (decide (b < a)))) := (Eq.refl _).trans (Eq.refl _)
theorem ge_ii : fGe h (.v (.int a)) (.v (.int b)) = some (.v (.bool (decide (b ≤ a)))) := (Eq.refl _).trans (Eq.refl _)
theorem max_ii : fMax h (.v (.int a)) (.v (.int b)) = some (.v (.int (if b > a then b else a))) := (Eq.refl _).trans (Eq.refl _)
theorem min_ii : fMin h (.v (.int a)) (.v (.int b)) = some (.v (.int (if b < a then b else a))) := (Eq.refl _).trans (Eq.refl _)
theorem mul_ii (c : CMul a b) : fMul h (.v (.int a)) (.v (.int b)) = some (.v (.int (a * b))) := (if_pos c).trans (Eq.refl _)
theorem mod_ii (c : 0 < b) : fMod h (.v (.int a)) (.v (.int b)) = some (.v (.int (a % b))) := (if_pos c).trans (Eq.refl _)
theorem div_ii (c : 0 < b) (c2 : b.natAbs.log2 < 9000) : fDiv h (.v (.int a)) (.v (.int b)) = some (.v (.int (a / b))) := (if_pos ⟨c, c2⟩).trans (Eq.refl _)
theorem shr_ii (c : 0 ≤ b) : fShr h (.v (.int a)) (.v (.int b)) = some (.v (.int (a / 2 ^ b.toNat))) := (if_pos c).trans (Eq.refl _)
theorem shl_ii (c : 0 ≤ b) (c2 : (PySem.Builtin.Int.intBits a : Int) + b ≤ 2 ^ 27) : fShl h (.v (.int a)) (.v (.int b)) = some (.v (.int (a * 2 ^ b.toNat))) := (if_pos ⟨c, c2⟩).trans (Eq.refl _)
theorem neg_i : fNeg h (.v (.int a)) = some (.v (.int (-a))) := (Eq.refl _).trans (Eq.refl _)
theorem abs_i : fAbs h (.v (.int a)) = some (.v (.int (if a < 0 then -a else a))) := (Eq.refl _).trans (Eq.refl _)
theorem int_i : fInt h (.v (.int a)) = some (.v (.int a)) := (Eq.refl _).trans (Eq.refl _)
theorem eq_ii : fEq false h (.v (.int a)) (.v (.int b)) = some (.v (.bool (decide (a = b)))) := by
  unfold fEq toDR toD
  show (if PySem.SeqAt.shaped (.int a) = true ∧ PySem.SeqAt.shaped (.int b) = true then _ else _) = _
  rw [if_pos ⟨by unfold PySem.SeqAt.shaped PyData.canLay0 PyData.depth; rfl, by unfold PySem.SeqAt.shaped PyData.canLay0 PyData.depth; rfl⟩]
  unfold PyData.eqv
  by_cases e : a = b <;> simp [e]
theorem ne_ii : fEq true h (.v (.int a)) (.v (.int b)) = some (.v (.bool (!decide (a = b)))) := by
  unfold fEq toDR toD
  show (if PySem.SeqAt.shaped (.int a) = true ∧ PySem.SeqAt.shaped (.int b) = true then _ else _) = _
  rw [if_pos ⟨by unfold PySem.SeqAt.shaped PyData.canLay0 PyData.depth; rfl, by unfold PySem.SeqAt.shaped PyData.canLay0 PyData.depth; rfl⟩]
  unfold PyData.eqv
  by_cases e : a = b <;> simp [e]
theorem look_obj (e : h[n]? = some (.lst xs)) : look h (.v (.obj n)) = some (false, xs) := by
  show (match h[n]? with
    | some (.lst vs) => some (false, vs)
    | _ => none) = _
  rw [e]
theorem ix_obj (e : h[n]? = some (.lst xs)) : fIx h (.v (.obj n)) (.v (.int a)) = (L2.atI xs a).map .v := by
  show (match look h (.v (.obj n)) with
      | some (_, xs) => (L2.atI xs a).map RV.v
      | none => none) = _
  rw [look_obj e]
theorem ix_tup : fIx h (.v (.tup xs)) (.v (.int a)) = (L2.atI xs a).map .v := (Eq.refl _).trans (Eq.refl _)
theorem ix_ro : fIx h (.v (.ro xs)) (.v (.int a)) = (L2.atI xs a).map .v := (Eq.refl _).trans (Eq.refl _)
theorem ix_own : fIx h (.own xs) (.v (.int a)) = (L2.atI xs a).map .v := (Eq.refl _).trans (Eq.refl _)
theorem ix_view : fIx h (.view xs) (.v (.int a)) = (L2.atI xs a).map .v := (Eq.refl _).trans (Eq.refl _)
theorem len_obj (e : h[n]? = some (.lst xs)) : fLen h (.v (.obj n)) = some (.v (.int xs.length)) := by
  show (match look h (.v (.obj n)) with
    | some (_, xs) => some (RV.v (.int xs.length))
    | none => none) = _
  rw [look_obj e]
theorem len_tup : fLen h (.v (.tup xs)) = some (.v (.int xs.length)) := (Eq.refl _).trans (Eq.refl _)
theorem len_ro : fLen h (.v (.ro xs)) = some (.v (.int xs.length)) := (Eq.refl _).trans (Eq.refl _)
theorem len_own : fLen h (.own xs) = some (.v (.int xs.length)) := (Eq.refl _).trans (Eq.refl _)
theorem len_view : fLen h (.view xs) = some (.v (.int xs.length)) := (Eq.refl _).trans (Eq.refl _)
theorem list_obj (e : h[n]? = some (.lst xs)) : fList h (.v (.obj n)) = some (.own xs) := by
  show (match look h (.v (.obj n)) with
    | some (_, xs) => some (RV.own xs)
    | none => none) = _
  rw [look_obj e]
theorem list_tup : fList h (.v (.tup xs)) = some (.own xs) := (Eq.refl _).trans (Eq.refl _)
theorem list_ro : fList h (.v (.ro xs)) = some (.own xs) := (Eq.refl _).trans (Eq.refl _)
theorem list_scr : fList h (.v (.scr xs)) = some (.own xs) := (Eq.refl _).trans (Eq.refl _)
theorem list_own : fList h (.own xs) = some (.own xs) := (Eq.refl _).trans (Eq.refl _)
theorem list_view : fList h (.view xs) = some (.own xs) := (Eq.refl _).trans (Eq.refl _)
theorem tuple_obj (e : h[n]? = some (.lst xs)) : fTuple h (.v (.obj n)) = some (.v (.tup xs)) := by
  show (match look h (.v (.obj n)) with
    | some (_, xs) => some (RV.v (.tup xs))
    | none => none) = _
  rw [look_obj e]
theorem tuple_tup : fTuple h (.v (.tup xs)) = some (.v (.tup xs)) := (Eq.refl _).trans (Eq.refl _)
theorem tuple_ro : fTuple h (.v (.ro xs)) = some (.v (.tup xs)) := (Eq.refl _).trans (Eq.refl _)
theorem tuple_own : fTuple h (.own xs) = some (.v (.tup xs)) := (Eq.refl _).trans (Eq.refl _)
theorem tuple_view : fTuple h (.view xs) = some (.v (.tup xs)) := (Eq.refl _).trans (Eq.refl _)
theorem at0 {x : Val} {r : List Val} : L2.atI (x :: r) 0 = some x := L2.atI_nat (j := 0) rfl
theorem at1 {x y : Val} {r : List Val} : L2.atI (x :: y :: r) 1 = some y := L2.atI_nat (j := 1) rfl
theorem at2 {x y z : Val} {r : List Val} : L2.atI (x :: y :: z :: r) 2 = some z := L2.atI_nat (j := 2) rfl
theorem at3 {x y z u : Val} {r : List Val} : L2.atI (x :: y :: z :: u :: r) 3 = some u := L2.atI_nat (j := 3) rfl
theorem at_nat {xs : List Val} {i : Int} {x : Val} (h0 : 0 ≤ i) (h : xs[i.toNat]? = some x) : L2.atI xs i = some x := by
  have := L2.atI_nat h
  rw [Int.toNat_of_nonneg h0] at this
  exact this
theorem ixN_lit {n : Nat} {i : Int} (h0 : 0 ≤ i) (h1 : i < n) : L2.ixN n i = some i.toNat := by
  unfold L2.ixN
  rw [if_pos h0, if_pos h1]
end
/-! ### the draws of the laws -/
noncomputable def bDraw : S := sCons (sIf (tAnd (tB (e2 (fEq false) (e2 fIx (eVar 0) (eC (.int 1))) (eC (.int 0)))) (tB (e2 fGe (e2 fIx (eVar 0) (eC (.int 2))) (e1 fLen (e2 fIx (eVar 0) (eC (.int 0))))))) (sCons (sSetHp (eVar 0) (eC (.int 3)) (e2 fMod (e1 fInt (e2 fAdd (e2 fMul (e2 fIx (eVar 0) (eC (.int 3))) (eC (.int 48271))) (eC (.int 69621)))) (eC (.int 2147483629)))) (sRet (e2 fMod (e1 fInt (e2 fDiv (e2 fIx (eVar 0) (eC (.int 3))) (eC (.int 13)))) (eVar 1)))) (sNil)) (sCons (sIf (tB (e2 (fEq false) (e2 fIx (eVar 0) (eC (.int 1))) (eC (.int 0)))) (sCons (sSetHp (eVar 0) (eC (.int 1)) (e1 fAbs (e2 fIx (e2 fIx (eVar 0) (eC (.int 0))) (e2 fIx (eVar 0) (eC (.int 2)))))) (sAugHp (fI0 fun i j => .int (i + j)) (eVar 0) (eC (.int 2)) (eC (.int 1)))) (sNil)) (sCons (sSet 2 (e2 fMod (e1 fInt (e2 fIx (eVar 0) (eC (.int 1)))) (eVar 1))) (sCons (sSetHp (eVar 0) (eC (.int 1)) (e2 fDiv (e2 fIx (eVar 0) (eC (.int 1))) (eVar 1))) (sRet (eVar 2)))))
noncomputable def fDraw : Fn := mkFn 3 bDraw
def IsSt (st : List Val) : Prop := ∃ (ns : List Int) (a b s : Int), st = [.ro (vInts ns), .int a, .int b, .int s] ∧ 0 ≤ a ∧ 0 ≤ b ∧ 0 ≤ s ∧ s ≤ 2147483629
theorem log_lt {n : Nat} (k : Nat) (h : n < 2 ^ (k + 1)) : n.log2 + 1 ≤ k + 1 := by
  by_cases h0 : n = 0
  · subst h0
    rw [Nat.log2_zero]
    omega
  · have := (Nat.log2_lt h0).mpr h
    omega
theorem bits_lt {i : Int} (k : Nat) (h0 : 0 ≤ i) (h : i < 2 ^ (k + 1)) : PySem.Builtin.Int.intBits i ≤ k + 1 := by
  unfold PySem.Builtin.Int.intBits
  split
  · omega
  · refine log_lt k ?_
    have e : ((i.natAbs : Nat) : Int) < ((2 ^ (k + 1) : Nat) : Int) := by
      rw [Int.natAbs_of_nonneg h0, PySem.W.kbt_cast]
      exact h
    omega
end SM

/-! SMStep: the machine in small steps (printed by mkstep.py): what follows a step stands as a name, so that simp does not walk into it. -/
namespace SM
theorem q_C {x : Val} {r : Env} {h : Heap} : eC x r h = .ok (.v x) h := (Eq.refl _).trans (Eq.refl _)
noncomputable def evj (h : Heap) : Option (Option RV) → EO RV := fun o => match o with | some (some x) => .ok (rdSlot x) h | _ => .no
theorem q_Var {i : Nat} {r : Env} {h : Heap} : eVar i r h = evj h r[i]? := (Eq.refl _).trans (Eq.refl _)
theorem q_evv {x : Val} {h : Heap} : evj h (some (some (.v x))) = .ok (.v x) h := (Eq.refl _).trans (Eq.refl _)
theorem q_evo {x : List Val} {h : Heap} : evj h (some (some (.own x))) = .ok (.view x) h := (Eq.refl _).trans (Eq.refl _)
theorem q_evw {x : List Val} {h : Heap} : evj h (some (some (.view x))) = .ok (.view x) h := (Eq.refl _).trans (Eq.refl _)
noncomputable def e1k (f : F1) : RV → Heap → EO RV := fun x h1 => opt (f h1 x) h1
theorem q_e1 {f : F1} {a : E} {r : Env} {h : Heap} : e1 f a r h = (a r h).bind (e1k f) := (Eq.refl _).trans (Eq.refl _)
theorem q_e1k {f : F1} {x : RV} {h : Heap} : e1k f x h = opt (f h x) h := (Eq.refl _).trans (Eq.refl _)
noncomputable def e2j (f : F2) (x : RV) : RV → Heap → EO RV := fun y h2 => opt (f h2 x y) h2
noncomputable def e2k (f : F2) (b : E) (r : Env) : RV → Heap → EO RV := fun x h1 => (b r h1).bind (e2j f x)
theorem q_e2 {f : F2} {a b : E} {r : Env} {h : Heap} : e2 f a b r h = (a r h).bind (e2k f b r) := (Eq.refl _).trans (Eq.refl _)
theorem q_e2k {f : F2} {b : E} {r : Env} {x : RV} {h : Heap} : e2k f b r x h = (b r h).bind (e2j f x) := (Eq.refl _).trans (Eq.refl _)
theorem q_e2j {f : F2} {x y : RV} {h : Heap} : e2j f x y h = opt (f h x y) h := (Eq.refl _).trans (Eq.refl _)
theorem q_aNil {r : Env} {h : Heap} : aNil r h = .ok [] h := (Eq.refl _).trans (Eq.refl _)
noncomputable def acj (x : RV) : List RV → Heap → EO (List RV) := fun xs h2 => .ok (x.arg :: xs) h2
noncomputable def ack (as : A) (r : Env) : RV → Heap → EO (List RV) := fun x h1 => (as r h1).bind (acj x)
theorem q_aCons {a : E} {as : A} {r : Env} {h : Heap} : aCons a as r h = (a r h).bind (ack as r) := (Eq.refl _).trans (Eq.refl _)
theorem q_ack {as : A} {r : Env} {x : RV} {h : Heap} : ack as r x h = (as r h).bind (acj x) := (Eq.refl _).trans (Eq.refl _)
theorem q_acj {x : RV} {xs : List RV} {h : Heap} : acj x xs h = .ok (x.arg :: xs) h := (Eq.refl _).trans (Eq.refl _)
theorem q_argv {x : Val} : RV.arg (.v x) = .v x := (Eq.refl _).trans (Eq.refl _)
theorem q_argo {x : List Val} : RV.arg (.own x) = .v (.ro x) := (Eq.refl _).trans (Eq.refl _)
theorem q_argw {x : List Val} : RV.arg (.view x) = .view x := (Eq.refl _).trans (Eq.refl _)
noncomputable def kpc  : Option Val → Option (List Val) → Option (List Val) := fun a b => match a, b with | some x, some xs => some (x :: xs) | _, _ => none
theorem q_keeps {r : RV} {rs : List RV} : keeps (r :: rs) = kpc r.keep (keeps rs) := (Eq.refl _).trans (Eq.refl _)
theorem q_keepsN  : keeps [] = some [] := (Eq.refl _).trans (Eq.refl _)
theorem q_kpc {x : Val} {xs : List Val} : kpc (some x) (some xs) = some (x :: xs) := (Eq.refl _).trans (Eq.refl _)
theorem q_keepv {x : Val} : RV.keep (.v x) = some x := (Eq.refl _).trans (Eq.refl _)
theorem q_keepo {x : List Val} : RV.keep (.own x) = some (.ro x) := (Eq.refl _).trans (Eq.refl _)
noncomputable def etj (h : Heap) : Option (List Val) → EO RV := fun o => match o with | some xs => if xs.length ≤ line then .ok (.v (.tup xs)) h else .no | none => .no
noncomputable def etk  : List RV → Heap → EO RV := fun rs h => etj h (keeps rs)
theorem q_Tup {as : A} {r : Env} {h : Heap} : eTup as r h = (as r h).bind etk := (Eq.refl _).trans (Eq.refl _)
theorem q_etk {rs : List RV} {h : Heap} : etk rs h = etj h (keeps rs) := (Eq.refl _).trans (Eq.refl _)
theorem q_etj {xs : List Val} {h : Heap} : etj h (some xs) = if xs.length ≤ line then .ok (.v (.tup xs)) h else .no := (Eq.refl _).trans (Eq.refl _)
noncomputable def elj (h : Heap) : Option (List Val) → EO RV := fun o => match o with | some xs => if xs.length ≤ line then .ok (.own xs) h else .no | none => .no
noncomputable def elk  : List RV → Heap → EO RV := fun rs h => elj h (keeps rs)
theorem q_Lst {as : A} {r : Env} {h : Heap} : eLst as r h = (as r h).bind elk := (Eq.refl _).trans (Eq.refl _)
theorem q_elk {rs : List RV} {h : Heap} : elk rs h = elj h (keeps rs) := (Eq.refl _).trans (Eq.refl _)
theorem q_elj {xs : List Val} {h : Heap} : elj h (some xs) = if xs.length ≤ line then .ok (.own xs) h else .no := (Eq.refl _).trans (Eq.refl _)
theorem q_Call {f : Fn} {as : A} {r : Env} {h : Heap} : eCall f as r h = (as r h).bind f := (Eq.refl _).trans (Eq.refl _)
noncomputable def eifk (a b : E) (r : Env) : Bool → Heap → EO RV := fun c h1 => if c = true then a r h1 else b r h1
theorem q_If {t : T} {a b : E} {r : Env} {h : Heap} : eIf t a b r h = (t r h).bind (eifk a b r) := (Eq.refl _).trans (Eq.refl _)
theorem q_ift {a b : E} {r : Env} {h : Heap} : eifk a b r true h = a r h := (Eq.refl _).trans (Eq.refl _)
theorem q_iff {a b : E} {r : Env} {h : Heap} : eifk a b r false h = b r h := (Eq.refl _).trans (Eq.refl _)
noncomputable def tbk  : RV → Heap → EO Bool := fun x h1 => match x with | .v (.bool b) => .ok b h1 | _ => .no
theorem q_tB {a : E} {r : Env} {h : Heap} : tB a r h = (a r h).bind tbk := (Eq.refl _).trans (Eq.refl _)
theorem q_tbk {b : Bool} {h : Heap} : tbk (.v (.bool b)) h = .ok b h := (Eq.refl _).trans (Eq.refl _)
noncomputable def ttk  : RV → Heap → EO Bool := fun x h1 => opt (truth h1 x) h1
theorem q_tTru {a : E} {r : Env} {h : Heap} : tTru a r h = (a r h).bind ttk := (Eq.refl _).trans (Eq.refl _)
theorem q_ttk {x : RV} {h : Heap} : ttk x h = opt (truth h x) h := (Eq.refl _).trans (Eq.refl _)
noncomputable def tak (b : T) (r : Env) : Bool → Heap → EO Bool := fun c h1 => if c = true then b r h1 else .ok false h1
theorem q_tAnd {a b : T} {r : Env} {h : Heap} : tAnd a b r h = (a r h).bind (tak b r) := (Eq.refl _).trans (Eq.refl _)
theorem q_takt {b : T} {r : Env} {h : Heap} : tak b r true h = b r h := (Eq.refl _).trans (Eq.refl _)
theorem q_takf {b : T} {r : Env} {h : Heap} : tak b r false h = .ok false h := (Eq.refl _).trans (Eq.refl _)
noncomputable def tok (b : T) (r : Env) : Bool → Heap → EO Bool := fun c h1 => if c = true then .ok true h1 else b r h1
theorem q_tOr {a b : T} {r : Env} {h : Heap} : tOr a b r h = (a r h).bind (tok b r) := (Eq.refl _).trans (Eq.refl _)
theorem q_tokt {b : T} {r : Env} {h : Heap} : tok b r true h = .ok true h := (Eq.refl _).trans (Eq.refl _)
theorem q_tokf {b : T} {r : Env} {h : Heap} : tok b r false h = b r h := (Eq.refl _).trans (Eq.refl _)
noncomputable def tnk  : Bool → Heap → EO Bool := fun c h1 => .ok (!c) h1
theorem q_tNot {a : T} {r : Env} {h : Heap} : tNot a r h = (a r h).bind tnk := (Eq.refl _).trans (Eq.refl _)
theorem q_tnk {c : Bool} {h : Heap} : tnk c h = .ok (!c) h := (Eq.refl _).trans (Eq.refl _)
theorem q_tYes {r : Env} {h : Heap} : tYes r h = .ok true h := (Eq.refl _).trans (Eq.refl _)
noncomputable def ndj (b : E) (r : Env) (x : RV) (h : Heap) : Option Bool → EO RV := fun o => match o with | some true => b r h | some false => .ok x h | none => .no
noncomputable def ndk (b : E) (r : Env) : RV → Heap → EO RV := fun x h1 => ndj b r x h1 (truth h1 x)
theorem q_And {a b : E} {r : Env} {h : Heap} : eAnd a b r h = (a r h).bind (ndk b r) := (Eq.refl _).trans (Eq.refl _)
theorem q_ndk {b : E} {r : Env} {x : RV} {h : Heap} : ndk b r x h = ndj b r x h (truth h x) := (Eq.refl _).trans (Eq.refl _)
theorem q_ndt {b : E} {r : Env} {x : RV} {h : Heap} : ndj b r x h (some true) = b r h := (Eq.refl _).trans (Eq.refl _)
theorem q_ndf {b : E} {r : Env} {x : RV} {h : Heap} : ndj b r x h (some false) = .ok x h := (Eq.refl _).trans (Eq.refl _)
noncomputable def orj (b : E) (r : Env) (x : RV) (h : Heap) : Option Bool → EO RV := fun o => match o with | some true => .ok x h | some false => b r h | none => .no
noncomputable def ork (b : E) (r : Env) : RV → Heap → EO RV := fun x h1 => orj b r x h1 (truth h1 x)
theorem q_Or {a b : E} {r : Env} {h : Heap} : eOr a b r h = (a r h).bind (ork b r) := (Eq.refl _).trans (Eq.refl _)
theorem q_ork {b : E} {r : Env} {x : RV} {h : Heap} : ork b r x h = orj b r x h (truth h x) := (Eq.refl _).trans (Eq.refl _)
theorem q_ort {b : E} {r : Env} {x : RV} {h : Heap} : orj b r x h (some true) = .ok x h := (Eq.refl _).trans (Eq.refl _)
theorem q_orf {b : E} {r : Env} {x : RV} {h : Heap} : orj b r x h (some false) = b r h := (Eq.refl _).trans (Eq.refl _)
noncomputable def ntj (h : Heap) : Option Bool → EO RV := fun o => match o with | some c => .ok (.v (.bool (!c))) h | none => .no
noncomputable def ntk  : RV → Heap → EO RV := fun x h1 => ntj h1 (truth h1 x)
theorem q_Not {a : E} {r : Env} {h : Heap} : eNot a r h = (a r h).bind ntk := (Eq.refl _).trans (Eq.refl _)
theorem q_ntk {x : RV} {h : Heap} : ntk x h = ntj h (truth h x) := (Eq.refl _).trans (Eq.refl _)
theorem q_ntj {c : Bool} {h : Heap} : ntj h (some c) = .ok (.v (.bool (!c))) h := (Eq.refl _).trans (Eq.refl _)
theorem q_trN {h : Heap} : truth h (.v .none) = some false := (Eq.refl _).trans (Eq.refl _)
theorem q_trB {h : Heap} {b : Bool} : truth h (.v (.bool b)) = some b := (Eq.refl _).trans (Eq.refl _)
theorem q_trI {h : Heap} {i : Int} : truth h (.v (.int i)) = some (i != 0) := (Eq.refl _).trans (Eq.refl _)
theorem q_trT {h : Heap} {xs : List Val} : truth h (.v (.tup xs)) = some (!xs.isEmpty) := (Eq.refl _).trans (Eq.refl _)
theorem q_trR {h : Heap} {xs : List Val} : truth h (.v (.ro xs)) = some (!xs.isEmpty) := (Eq.refl _).trans (Eq.refl _)
theorem q_trO {h : Heap} {xs : List Val} : truth h (.own xs) = some (!xs.isEmpty) := (Eq.refl _).trans (Eq.refl _)
theorem q_trW {h : Heap} {xs : List Val} : truth h (.view xs) = some (!xs.isEmpty) := (Eq.refl _).trans (Eq.refl _)
noncomputable def chi (g : F2) (c : E) (r : Env) (y : RV) (h : Heap) : Option RV → EO RV := fun o => match o with | some (.v (.bool true)) => (c r h).bind (e2j g y) | some (.v (.bool false)) => .ok (.v (.bool false)) h | _ => .no
noncomputable def chj (f g : F2) (c : E) (r : Env) (x : RV) : RV → Heap → EO RV := fun y h2 => chi g c r y h2 (f h2 x y)
noncomputable def chk (f g : F2) (b c : E) (r : Env) : RV → Heap → EO RV := fun x h1 => (b r h1).bind (chj f g c r x)
theorem q_Chain {f g : F2} {a b c : E} {r : Env} {h : Heap} : eChain f g a b c r h = (a r h).bind (chk f g b c r) := (Eq.refl _).trans (Eq.refl _)
theorem q_chk {f g : F2} {b c : E} {r : Env} {x : RV} {h : Heap} : chk f g b c r x h = (b r h).bind (chj f g c r x) := (Eq.refl _).trans (Eq.refl _)
theorem q_chj {f g : F2} {c : E} {r : Env} {x y : RV} {h : Heap} : chj f g c r x y h = chi g c r y h (f h x y) := (Eq.refl _).trans (Eq.refl _)
theorem q_chit {g : F2} {c : E} {r : Env} {y : RV} {h : Heap} : chi g c r y h (some (.v (.bool true))) = (c r h).bind (e2j g y) := (Eq.refl _).trans (Eq.refl _)
theorem q_chif {g : F2} {c : E} {r : Env} {y : RV} {h : Heap} : chi g c r y h (some (.v (.bool false))) = .ok (.v (.bool false)) h := (Eq.refl _).trans (Eq.refl _)
theorem q_sNil {r : Env} {h : Heap} : sNil r h = .nx r h := (Eq.refl _).trans (Eq.refl _)
theorem q_sPass {r : Env} {h : Heap} : sPass r h = .nx r h := (Eq.refl _).trans (Eq.refl _)
theorem q_sCons {a b : S} {r : Env} {h : Heap} : sCons a b r h = (a r h).seq b := (Eq.refl _).trans (Eq.refl _)
noncomputable def ssk (i : Nat) (r : Env) : RV → Heap → SO := fun x h1 => match x.keep with | some y => .nx (r.set i (some (.v y))) h1 | none => .no
theorem q_sSet {i : Nat} {a : E} {r : Env} {h : Heap} : sSet i a r h = (a r h).then r (ssk i r) := (Eq.refl _).trans (Eq.refl _)
theorem q_ssv {i : Nat} {r : Env} {x : Val} {h : Heap} : ssk i r (.v x) h = .nx (r.set i (some (.v x))) h := (Eq.refl _).trans (Eq.refl _)
theorem q_sso {i : Nat} {r : Env} {x : List Val} {h : Heap} : ssk i r (.own x) h = .nx (r.set i (some (.v (.ro x)))) h := (Eq.refl _).trans (Eq.refl _)
noncomputable def sok (i : Nat) (r : Env) : RV → Heap → SO := fun x h1 => match x with | .own xs => .nx (r.set i (some (.own xs))) h1 | _ => .no
theorem q_sOwn {i : Nat} {a : E} {r : Env} {h : Heap} : sOwn i a r h = (a r h).then r (sok i r) := (Eq.refl _).trans (Eq.refl _)
theorem q_sok {i : Nat} {r : Env} {x : List Val} {h : Heap} : sok i r (.own x) h = .nx (r.set i (some (.own x))) h := (Eq.refl _).trans (Eq.refl _)
noncomputable def shk (i : Nat) (r : Env) : RV → Heap → SO := fun x h1 => match x with | .own xs => .nx (r.set i (some (.v (.obj h1.length)))) (h1 ++ [.lst xs]) | _ => .no
theorem q_sHeap {i : Nat} {a : E} {r : Env} {h : Heap} : sHeap i a r h = (a r h).then r (shk i r) := (Eq.refl _).trans (Eq.refl _)
theorem q_shk {i : Nat} {r : Env} {x : List Val} {h : Heap} : shk i r (.own x) h = .nx (r.set i (some (.v (.obj h.length)))) (h ++ [.lst x]) := (Eq.refl _).trans (Eq.refl _)
noncomputable def sfj (i : Nat) (r : Env) (h : Heap) : Option (Option RV) → SO := fun o => match o with | some (some (.own xs)) => .nx (r.set i (some (.v (.ro xs)))) h | _ => .no
theorem q_sFrz {i : Nat} {r : Env} {h : Heap} : sFrz i r h = sfj i r h r[i]? := (Eq.refl _).trans (Eq.refl _)
theorem q_sfj {i : Nat} {r : Env} {h : Heap} {xs : List Val} : sfj i r h (some (some (.own xs))) = .nx (r.set i (some (.v (.ro xs)))) h := (Eq.refl _).trans (Eq.refl _)
noncomputable def sxk (r : Env) : RV → Heap → SO := fun _ h1 => .nx r h1
theorem q_sExpr {a : E} {r : Env} {h : Heap} : sExpr a r h = (a r h).then r (sxk r) := (Eq.refl _).trans (Eq.refl _)
theorem q_sxk {r : Env} {x : RV} {h : Heap} : sxk r x h = .nx r h := (Eq.refl _).trans (Eq.refl _)
noncomputable def srk  : RV → Heap → SO := fun x h1 => match x with | .view _ => .no | x => .rt x h1
theorem q_sRet {a : E} {r : Env} {h : Heap} : sRet a r h = (a r h).then r srk := (Eq.refl _).trans (Eq.refl _)
theorem q_srv {x : Val} {h : Heap} : srk (.v x) h = .rt (.v x) h := (Eq.refl _).trans (Eq.refl _)
theorem q_sro {x : List Val} {h : Heap} : srk (.own x) h = .rt (.own x) h := (Eq.refl _).trans (Eq.refl _)
noncomputable def roj (h : Heap) : Option (Option RV) → SO := fun o => match o with | some (some (.own xs)) => .rt (.own xs) h | _ => .no
theorem q_sRetOwn {i : Nat} {r : Env} {h : Heap} : sRetOwn i r h = roj h r[i]? := (Eq.refl _).trans (Eq.refl _)
theorem q_roj {xs : List Val} {h : Heap} : roj h (some (some (.own xs))) = .rt (.own xs) h := (Eq.refl _).trans (Eq.refl _)
theorem q_sRetN {r : Env} {h : Heap} : sRetN r h = .rt (.v .none) h := (Eq.refl _).trans (Eq.refl _)
theorem q_sBreak {r : Env} {h : Heap} : sBreak r h = .bk r h := (Eq.refl _).trans (Eq.refl _)
theorem q_sCont {r : Env} {h : Heap} : sCont r h = .ct r h := (Eq.refl _).trans (Eq.refl _)
noncomputable def sifk (a b : S) (r : Env) : Bool → Heap → SO := fun c h1 => if c = true then a r h1 else b r h1
theorem q_sIf {t : T} {a b : S} {r : Env} {h : Heap} : sIf t a b r h = (t r h).then r (sifk a b r) := (Eq.refl _).trans (Eq.refl _)
theorem q_sift {a b : S} {r : Env} {h : Heap} : sifk a b r true h = a r h := (Eq.refl _).trans (Eq.refl _)
theorem q_siff {a b : S} {r : Env} {h : Heap} : sifk a b r false h = b r h := (Eq.refl _).trans (Eq.refl _)
noncomputable def sapk (i : Nat) (r : Env) (xs : List Val) : RV → Heap → SO := fun x h1 => match x.keep with | some y => if xs.length < line then .nx (r.set i (some (.own (xs ++ [y])))) h1 else .no | none => .no
noncomputable def sapj (i : Nat) (a : E) (r : Env) (h : Heap) : Option (Option RV) → SO := fun o => match o with | some (some (.own xs)) => (a r h).then r (sapk i r xs) | _ => .no
theorem q_sApp {i : Nat} {a : E} {r : Env} {h : Heap} : sApp i a r h = sapj i a r h r[i]? := by unfold sApp sapj sapk; rfl
theorem q_sapj {i : Nat} {a : E} {r : Env} {h : Heap} {xs : List Val} : sapj i a r h (some (some (.own xs))) = (a r h).then r (sapk i r xs) := (Eq.refl _).trans (Eq.refl _)
theorem q_sapv {i : Nat} {r : Env} {xs : List Val} {x : Val} {h : Heap} : sapk i r xs (.v x) h = if xs.length < line then .nx (r.set i (some (.own (xs ++ [x])))) h else .no := (Eq.refl _).trans (Eq.refl _)
theorem q_sapo {i : Nat} {r : Env} {xs : List Val} {x : List Val} {h : Heap} : sapk i r xs (.own x) h = if xs.length < line then .nx (r.set i (some (.own (xs ++ [.ro x])))) h else .no := (Eq.refl _).trans (Eq.refl _)
noncomputable def sexm (i : Nat) (r : Env) (xs : List Val) (h : Heap) : Option (List Val) → SO := fun o => match o with | some ys => if xs.length + ys.length ≤ line then .nx (r.set i (some (.own (xs ++ ys)))) h else .no | none => .no
noncomputable def sexk (i : Nat) (r : Env) (xs : List Val) : RV → Heap → SO := fun x h1 => sexm i r xs h1 (lookL h1 x)
noncomputable def sexj (i : Nat) (a : E) (r : Env) (h : Heap) : Option (Option RV) → SO := fun o => match o with | some (some (.own xs)) => (a r h).then r (sexk i r xs) | _ => .no
theorem q_sExt {i : Nat} {a : E} {r : Env} {h : Heap} : sExt i a r h = sexj i a r h r[i]? := by unfold sExt sexj sexk sexm; rfl
theorem q_sexj {i : Nat} {a : E} {r : Env} {h : Heap} {xs : List Val} : sexj i a r h (some (some (.own xs))) = (a r h).then r (sexk i r xs) := (Eq.refl _).trans (Eq.refl _)
theorem q_sexk {i : Nat} {r : Env} {xs : List Val} {x : RV} {h : Heap} : sexk i r xs x h = sexm i r xs h (lookL h x) := (Eq.refl _).trans (Eq.refl _)
theorem q_sexm {i : Nat} {r : Env} {xs ys : List Val} {h : Heap} : sexm i r xs h (some ys) = if xs.length + ys.length ≤ line then .nx (r.set i (some (.own (xs ++ ys)))) h else .no := (Eq.refl _).trans (Eq.refl _)
theorem q_llo {h : Heap} {xs : List Val} : lookL h (.own xs) = some xs := (Eq.refl _).trans (Eq.refl _)
theorem q_llw {h : Heap} {xs : List Val} : lookL h (.view xs) = some xs := (Eq.refl _).trans (Eq.refl _)
theorem q_llr {h : Heap} {xs : List Val} : lookL h (.v (.ro xs)) = some xs := (Eq.refl _).trans (Eq.refl _)
noncomputable def sixm (i : Nat) (r : Env) (xs : List Val) (y : Val) (h : Heap) : Option Nat → SO := fun o => match o with | some n => .nx (r.set i (some (.own (xs.set n y)))) h | none => .no
noncomputable def sixl (i : Nat) (r : Env) (xs : List Val) (y : Val) : RV → Heap → SO := fun j h2 => match j with | .v (.int j) => sixm i r xs y h2 (L2.ixN xs.length j) | _ => .no
noncomputable def sixj (i : Nat) (ix : E) (r : Env) (y : Val) (h : Heap) : Option (Option RV) → SO := fun o => match o with | some (some (.own xs)) => (ix r h).then r (sixl i r xs y) | _ => .no
noncomputable def sixk (i : Nat) (ix : E) (r : Env) : RV → Heap → SO := fun x h1 => match x.keep with | some y => sixj i ix r y h1 r[i]? | none => .no
theorem q_sSetIx {i : Nat} {ix a : E} {r : Env} {h : Heap} : sSetIx i ix a r h = (a r h).then r (sixk i ix r) := by unfold sSetIx sixk sixj sixl sixm; rfl
theorem q_sixv {i : Nat} {ix : E} {r : Env} {x : Val} {h : Heap} : sixk i ix r (.v x) h = sixj i ix r x h r[i]? := (Eq.refl _).trans (Eq.refl _)
theorem q_sixo {i : Nat} {ix : E} {r : Env} {x : List Val} {h : Heap} : sixk i ix r (.own x) h = sixj i ix r (.ro x) h r[i]? := (Eq.refl _).trans (Eq.refl _)
theorem q_sixj {i : Nat} {ix : E} {r : Env} {y : Val} {h : Heap} {xs : List Val} : sixj i ix r y h (some (some (.own xs))) = (ix r h).then r (sixl i r xs y) := (Eq.refl _).trans (Eq.refl _)
theorem q_sixl {i : Nat} {r : Env} {xs : List Val} {y : Val} {j : Int} {h : Heap} : sixl i r xs y (.v (.int j)) h = sixm i r xs y h (L2.ixN xs.length j) := (Eq.refl _).trans (Eq.refl _)
theorem q_sixm {i : Nat} {r : Env} {xs : List Val} {y : Val} {n : Nat} {h : Heap} : sixm i r xs y h (some n) = .nx (r.set i (some (.own (xs.set n y)))) h := (Eq.refl _).trans (Eq.refl _)
noncomputable def hpn (r : Env) (y : Val) (m : Nat) (h : Heap) (xs : List Val) : Option Nat → SO := fun o => match o with | some n => .nx r (h.set m (.lst (xs.set n y))) | none => .no
noncomputable def hpm (r : Env) (y : Val) (m : Nat) (h : Heap) (j : Int) : Option HObj → SO := fun o => match o with | some (.lst xs) => hpn r y m h xs (L2.ixN xs.length j) | _ => .no
noncomputable def hpl (r : Env) (y : Val) (m : Nat) : RV → Heap → SO := fun j h3 => match j with | .v (.int j) => hpm r y m h3 j h3[m]? | _ => .no
noncomputable def hpj (ix : E) (r : Env) (y : Val) : RV → Heap → SO := fun p h2 => match p with | .v (.obj m) => (ix r h2).then r (hpl r y m) | _ => .no
noncomputable def hpk (o ix : E) (r : Env) : RV → Heap → SO := fun x h1 => match x.keep with | some y => (o r h1).then r (hpj ix r y) | none => .no
theorem q_sSetHp {o ix a : E} {r : Env} {h : Heap} : sSetHp o ix a r h = (a r h).then r (hpk o ix r) := by unfold sSetHp hpk hpj hpl hpm hpn; rfl
theorem q_hpv {o ix : E} {r : Env} {x : Val} {h : Heap} : hpk o ix r (.v x) h = (o r h).then r (hpj ix r x) := (Eq.refl _).trans (Eq.refl _)
theorem q_hpo {o ix : E} {r : Env} {x : List Val} {h : Heap} : hpk o ix r (.own x) h = (o r h).then r (hpj ix r (.ro x)) := (Eq.refl _).trans (Eq.refl _)
theorem q_hpj {ix : E} {r : Env} {y : Val} {m : Nat} {h : Heap} : hpj ix r y (.v (.obj m)) h = (ix r h).then r (hpl r y m) := (Eq.refl _).trans (Eq.refl _)
theorem q_hpl {r : Env} {y : Val} {m : Nat} {j : Int} {h : Heap} : hpl r y m (.v (.int j)) h = hpm r y m h j h[m]? := (Eq.refl _).trans (Eq.refl _)
theorem q_hpm {r : Env} {y : Val} {m : Nat} {j : Int} {h : Heap} {xs : List Val} : hpm r y m h j (some (.lst xs)) = hpn r y m h xs (L2.ixN xs.length j) := (Eq.refl _).trans (Eq.refl _)
theorem q_hpn {r : Env} {y : Val} {m n : Nat} {h : Heap} {xs : List Val} : hpn r y m h xs (some n) = .nx r (h.set m (.lst (xs.set n y))) := (Eq.refl _).trans (Eq.refl _)
noncomputable def agp (r : Env) (m : Nat) (j : Int) (u : Val) (h : Heap) : Option HObj → SO := fun o => match o with | some (.lst ys) => hpn r u m h ys (L2.ixN ys.length j) | _ => .no
noncomputable def ago (r : Env) (m : Nat) (j : Int) (h : Heap) : Option RV → SO := fun o => match o with | some u => (match u.keep with | some u => agp r m j u h h[m]? | none => .no) | none => .no
noncomputable def agn (f : F2) (r : Env) (m : Nat) (j : Int) (z : Val) : RV → Heap → SO := fun y h3 => ago r m j h3 (f h3 (.v z) y)
noncomputable def agm (f : F2) (a : E) (r : Env) (m : Nat) (j : Int) (h : Heap) : Option Val → SO := fun o => match o with | some z => (a r h).then r (agn f r m j z) | none => .no
noncomputable def agl (f : F2) (a : E) (r : Env) (m : Nat) (j : Int) (h : Heap) : Option HObj → SO := fun o => match o with | some (.lst xs) => agm f a r m j h (L2.atI xs j) | _ => .no
noncomputable def agj (f : F2) (a : E) (r : Env) (m : Nat) : RV → Heap → SO := fun j h2 => match j with | .v (.int j) => agl f a r m j h2 h2[m]? | _ => .no
noncomputable def agk (f : F2) (ix a : E) (r : Env) : RV → Heap → SO := fun p h1 => match p with | .v (.obj m) => (ix r h1).then r (agj f a r m) | _ => .no
theorem q_sAugHp {f : F2} {o ix a : E} {r : Env} {h : Heap} : sAugHp f o ix a r h = (o r h).then r (agk f ix a r) := by unfold sAugHp agk agj agl agm agn ago agp hpn; rfl
theorem q_agk {f : F2} {ix a : E} {r : Env} {m : Nat} {h : Heap} : agk f ix a r (.v (.obj m)) h = (ix r h).then r (agj f a r m) := (Eq.refl _).trans (Eq.refl _)
theorem q_agj {f : F2} {a : E} {r : Env} {m : Nat} {j : Int} {h : Heap} : agj f a r m (.v (.int j)) h = agl f a r m j h h[m]? := (Eq.refl _).trans (Eq.refl _)
theorem q_agl {f : F2} {a : E} {r : Env} {m : Nat} {j : Int} {h : Heap} {xs : List Val} : agl f a r m j h (some (.lst xs)) = agm f a r m j h (L2.atI xs j) := (Eq.refl _).trans (Eq.refl _)
theorem q_agm {f : F2} {a : E} {r : Env} {m : Nat} {j : Int} {h : Heap} {z : Val} : agm f a r m j h (some z) = (a r h).then r (agn f r m j z) := (Eq.refl _).trans (Eq.refl _)
theorem q_agn {f : F2} {r : Env} {m : Nat} {j : Int} {z : Val} {y : RV} {h : Heap} : agn f r m j z y h = ago r m j h (f h (.v z) y) := (Eq.refl _).trans (Eq.refl _)
theorem q_ago {r : Env} {m : Nat} {j : Int} {h : Heap} {u : Val} : ago r m j h (some (.v u)) = agp r m j u h h[m]? := (Eq.refl _).trans (Eq.refl _)
theorem q_agp {r : Env} {m : Nat} {j : Int} {u : Val} {h : Heap} {ys : List Val} : agp r m j u h (some (.lst ys)) = hpn r u m h ys (L2.ixN ys.length j) := (Eq.refl _).trans (Eq.refl _)
noncomputable def unk (is : List Nat) (r : Env) : RV → Heap → SO := fun x h1 => match x with | .v (.tup xs) => if xs.length = is.length then .nx (setAll is xs r) h1 else .no | _ => .no
theorem q_sUnp {is : List Nat} {a : E} {r : Env} {h : Heap} : sUnp is a r h = (a r h).then r (unk is r) := (Eq.refl _).trans (Eq.refl _)
theorem q_unk {is : List Nat} {r : Env} {xs : List Val} {h : Heap} : unk is r (.v (.tup xs)) h = if xs.length = is.length then .nx (setAll is xs r) h else .no := (Eq.refl _).trans (Eq.refl _)
theorem q_setc {i : Nat} {is : List Nat} {x : Val} {xs : List Val} {r : Env} : setAll (i :: is) (x :: xs) r = setAll is xs (r.set i (some (.v x))) := (Eq.refl _).trans (Eq.refl _)
theorem q_setn {r : Env} : setAll [] [] r = r := by unfold setAll; rfl
noncomputable def p2j (i j : Nat) (r : Env) (x : Val) : RV → Heap → SO := fun y h2 => match y.keep with | some y => .nx ((r.set i (some (.v x))).set j (some (.v y))) h2 | none => .no
noncomputable def p2k (i j : Nat) (b : E) (r : Env) : RV → Heap → SO := fun x h1 => match x.keep with | some x => (b r h1).then r (p2j i j r x) | none => .no
theorem q_sPar2 {i j : Nat} {a b : E} {r : Env} {h : Heap} : sPar2 i j a b r h = (a r h).then r (p2k i j b r) := (Eq.refl _).trans (Eq.refl _)
theorem q_p2v {i j : Nat} {b : E} {r : Env} {x : Val} {h : Heap} : p2k i j b r (.v x) h = (b r h).then r (p2j i j r x) := (Eq.refl _).trans (Eq.refl _)
theorem q_p2o {i j : Nat} {b : E} {r : Env} {x : List Val} {h : Heap} : p2k i j b r (.own x) h = (b r h).then r (p2j i j r (.ro x)) := (Eq.refl _).trans (Eq.refl _)
theorem q_p2jv {i j : Nat} {r : Env} {x y : Val} {h : Heap} : p2j i j r x (.v y) h = .nx ((r.set i (some (.v x))).set j (some (.v y))) h := (Eq.refl _).trans (Eq.refl _)
theorem q_p2jo {i j : Nat} {r : Env} {x : Val} {y : List Val} {h : Heap} : p2j i j r x (.own y) h = .nx ((r.set i (some (.v x))).set j (some (.v (.ro y)))) h := (Eq.refl _).trans (Eq.refl _)
noncomputable def aum (i : Nat) (r : Env) (h : Heap) : Option RV → SO := fun o => match o with | some z => (match z.keep with | some z => .nx (r.set i (some (.v z))) h | none => .no) | none => .no
noncomputable def aul (i : Nat) (f : F2) (r : Env) (x : Val) : RV → Heap → SO := fun y h1 => aum i r h1 (f h1 (.v x) y)
noncomputable def auj (i : Nat) (f : F2) (a : E) (r : Env) (h : Heap) : Option (Option RV) → SO := fun o => match o with | some (some (.v x)) => (a r h).then r (aul i f r x) | _ => .no
theorem q_sAug {i : Nat} {f : F2} {a : E} {r : Env} {h : Heap} : sAug i f a r h = auj i f a r h r[i]? := by unfold sAug auj aul aum; rfl
theorem q_auj {i : Nat} {f : F2} {a : E} {r : Env} {h : Heap} {x : Val} : auj i f a r h (some (some (.v x))) = (a r h).then r (aul i f r x) := (Eq.refl _).trans (Eq.refl _)
theorem q_aul {i : Nat} {f : F2} {r : Env} {x : Val} {y : RV} {h : Heap} : aul i f r x y h = aum i r h (f h (.v x) y) := (Eq.refl _).trans (Eq.refl _)
theorem q_aumv {i : Nat} {r : Env} {z : Val} {h : Heap} : aum i r h (some (.v z)) = .nx (r.set i (some (.v z))) h := (Eq.refl _).trans (Eq.refl _)
theorem q_aumo {i : Nat} {r : Env} {z : List Val} {h : Heap} : aum i r h (some (.own z)) = .nx (r.set i (some (.v (.ro z)))) h := (Eq.refl _).trans (Eq.refl _)
noncomputable def whk (c : T) (b : S) (n : Nat) (r : Env) : Bool → Heap → SO := fun k h1 => if k = true then (b r h1).turn (sWhile c b n) else .nx r h1
theorem q_sWhile {c : T} {b : S} {n : Nat} {r : Env} {h : Heap} : sWhile c b (n + 1) r h = (c r h).then r (whk c b n r) := (Eq.refl _).trans (Eq.refl _)
theorem q_wht {c : T} {b : S} {n : Nat} {r : Env} {h : Heap} : whk c b n r true h = (b r h).turn (sWhile c b n) := (Eq.refl _).trans (Eq.refl _)
theorem q_whf {c : T} {b : S} {n : Nat} {r : Env} {h : Heap} : whk c b n r false h = .nx r h := (Eq.refl _).trans (Eq.refl _)
noncomputable def frk (g : Tg) (b : S) (r : Env) : List Val × List Nat → Heap → SO := fun p h1 => forL g b p.2 h1 p.1 r h1
theorem q_sFor {g : Tg} {it : I} {b : S} {r : Env} {h : Heap} : sFor g it b r h = (it r h).then r (frk g b r) := (Eq.refl _).trans (Eq.refl _)
theorem q_frk {g : Tg} {b : S} {r : Env} {xs : List Val} {dep : List Nat} {h : Heap} : frk g b r (xs, dep) h = forL g b dep h xs r h := (Eq.refl _).trans (Eq.refl _)
noncomputable def flk (b : S) (k : S) (h : Heap) : Option Env → SO := fun o => match o with | some r1 => (b r1 h).turn k | none => .no
theorem q_forN {g : Tg} {b : S} {h0 : Heap} {r : Env} {h : Heap} : forL g b [] h0 [] r h = .nx r h := (Eq.refl _).trans (Eq.refl _)
theorem q_forC {g : Tg} {b : S} {h0 : Heap} {x : Val} {xs : List Val} {r : Env} {h : Heap} : forL g b [] h0 (x :: xs) r h = flk b (forL g b [] h0 xs) h (g.put x r) := (Eq.refl _).trans (Eq.refl _)
theorem q_flk {b k : S} {h : Heap} {r : Env} : flk b k h (some r) = (b r h).turn k := (Eq.refl _).trans (Eq.refl _)
theorem q_putN {i : Nat} {x : Val} {r : Env} : Tg.put (.nm i) x r = some (r.set i (some (.v x))) := (Eq.refl _).trans (Eq.refl _)
theorem q_putT {is : List Nat} {xs : List Val} {r : Env} : Tg.put (.tp is) (.tup xs) r = if xs.length = is.length then some (setAll is xs r) else none := (Eq.refl _).trans (Eq.refl _)
noncomputable def ioj (h : Heap) : Option (Bool × List Val × List Nat) → EO (List Val × List Nat) := fun o => match o with | some (_, xs, dep) => .ok (xs, dep) h | none => .no
noncomputable def iok (sq : Heap → RV → Option (Bool × List Val × List Nat)) : RV → Heap → EO (List Val × List Nat) := fun x h1 => ioj h1 (sq h1 x)
theorem q_iOf {sq : Heap → RV → Option (Bool × List Val × List Nat)} {a : E} {r : Env} {h : Heap} : iOf sq a r h = (a r h).bind (iok sq) := (Eq.refl _).trans (Eq.refl _)
theorem q_iok {sq : Heap → RV → Option (Bool × List Val × List Nat)} {x : RV} {h : Heap} : iok sq x h = ioj h (sq h x) := (Eq.refl _).trans (Eq.refl _)
theorem q_ioj {h : Heap} {t : Bool} {xs : List Val} {dep : List Nat} : ioj h (some (t, xs, dep)) = .ok (xs, dep) h := (Eq.refl _).trans (Eq.refl _)
theorem q_svT {h : Heap} {xs : List Val} : seqV h (.v (.tup xs)) = some (true, xs, []) := (Eq.refl _).trans (Eq.refl _)
theorem q_svR {h : Heap} {xs : List Val} : seqV h (.v (.ro xs)) = some (false, xs, []) := (Eq.refl _).trans (Eq.refl _)
theorem q_svS {h : Heap} {xs : List Val} : seqV h (.v (.scr xs)) = some (false, xs, []) := (Eq.refl _).trans (Eq.refl _)
theorem q_svO {h : Heap} {xs : List Val} : seqV h (.own xs) = some (false, xs, []) := (Eq.refl _).trans (Eq.refl _)
theorem q_seT {h : Heap} {xs : List Val} : seqE h (.v (.tup xs)) = some (true, xs, []) := (Eq.refl _).trans (Eq.refl _)
theorem q_seR {h : Heap} {xs : List Val} : seqE h (.v (.ro xs)) = some (false, xs, []) := (Eq.refl _).trans (Eq.refl _)
theorem q_seS {h : Heap} {xs : List Val} : seqE h (.v (.scr xs)) = some (false, xs, []) := (Eq.refl _).trans (Eq.refl _)
theorem q_seO {h : Heap} {xs : List Val} : seqE h (.own xs) = some (false, xs, []) := (Eq.refl _).trans (Eq.refl _)
theorem q_seW {h : Heap} {xs : List Val} : seqE h (.view xs) = some (false, xs, []) := (Eq.refl _).trans (Eq.refl _)
noncomputable def ivj (h : Heap) : Option (Option RV) → EO (List Val × List Nat) := fun o => match o with | some (some (.view xs)) => .ok (xs, []) h | some (some (.v x)) => ioj h (seqV h (.v x)) | _ => .no
theorem q_iView {i : Nat} {r : Env} {h : Heap} : iView i r h = ivj h r[i]? := by unfold iView ivj ioj; rfl
theorem q_ivw {h : Heap} {xs : List Val} : ivj h (some (some (.view xs))) = .ok (xs, []) h := (Eq.refl _).trans (Eq.refl _)
theorem q_ivv {h : Heap} {x : Val} : ivj h (some (some (.v x))) = ioj h (seqV h (.v x)) := (Eq.refl _).trans (Eq.refl _)
noncomputable def irk  : RV → Heap → EO (List Val × List Nat) := fun x h1 => match x with | .v (.int j) => if -(2 ^ 62) ≤ j ∧ j < 2 ^ 62 then .ok (upTo 0 j.toNat, []) h1 else .no | _ => .no
theorem q_iRng1 {a : E} {r : Env} {h : Heap} : iRng1 a r h = (a r h).bind irk := (Eq.refl _).trans (Eq.refl _)
theorem q_irk {j : Int} {h : Heap} : irk (.v (.int j)) h = if -(2 ^ 62) ≤ j ∧ j < 2 ^ 62 then .ok (upTo 0 j.toNat, []) h else .no := (Eq.refl _).trans (Eq.refl _)
noncomputable def slk3 (x : RV) (l : Option Int) : Option Int → Heap → EO RV := fun u h3 => opt (fCut h3 x l u) h3
noncomputable def slk2 (hi : Option E) (r : Env) (x : RV) : Option Int → Heap → EO RV := fun l h2 => (ePart hi r h2).bind (slk3 x l)
noncomputable def slk1 (lo hi : Option E) (r : Env) : RV → Heap → EO RV := fun x h1 => (ePart lo r h1).bind (slk2 hi r x)
theorem q_Sl {a : E} {lo hi : Option E} {r : Env} {h : Heap} : eSl a lo hi r h = (a r h).bind (slk1 lo hi r) := (Eq.refl _).trans (Eq.refl _)
theorem q_slk1 {lo hi : Option E} {r : Env} {x : RV} {h : Heap} : slk1 lo hi r x h = (ePart lo r h).bind (slk2 hi r x) := (Eq.refl _).trans (Eq.refl _)
theorem q_slk2 {hi : Option E} {r : Env} {x : RV} {l : Option Int} {h : Heap} : slk2 hi r x l h = (ePart hi r h).bind (slk3 x l) := (Eq.refl _).trans (Eq.refl _)
theorem q_slk3 {x : RV} {l u : Option Int} {h : Heap} : slk3 x l u h = opt (fCut h x l u) h := (Eq.refl _).trans (Eq.refl _)
noncomputable def epk  : RV → Heap → EO (Option Int) := fun x h1 => match x with | .v (.int i) => .ok (some i) h1 | _ => .no
theorem q_ePN {r : Env} {h : Heap} : ePart none r h = .ok none h := (Eq.refl _).trans (Eq.refl _)
theorem q_ePS {a : E} {r : Env} {h : Heap} : ePart (some a) r h = (a r h).bind epk := (Eq.refl _).trans (Eq.refl _)
theorem q_epk {i : Int} {h : Heap} : epk (.v (.int i)) h = .ok (some i) h := (Eq.refl _).trans (Eq.refl _)
theorem q_cutT {h : Heap} {xs : List Val} {l u : Option Int} : fCut h (.v (.tup xs)) l u = some (.v (.tup (cutX xs l u))) := (Eq.refl _).trans (Eq.refl _)
theorem q_cutR {h : Heap} {xs : List Val} {l u : Option Int} : fCut h (.v (.ro xs)) l u = some (.own (cutX xs l u)) := (Eq.refl _).trans (Eq.refl _)
theorem q_cutS {h : Heap} {xs : List Val} {l u : Option Int} : fCut h (.v (.scr xs)) l u = some (.own (cutX xs l u)) := (Eq.refl _).trans (Eq.refl _)
theorem q_cutO {h : Heap} {xs : List Val} {l u : Option Int} : fCut h (.own xs) l u = some (.own (cutX xs l u)) := (Eq.refl _).trans (Eq.refl _)
theorem q_cutW {h : Heap} {xs : List Val} {l u : Option Int} : fCut h (.view xs) l u = some (.own (cutX xs l u)) := (Eq.refl _).trans (Eq.refl _)
noncomputable def stk3 (c : Int) (x : RV) (l : Option Int) : Option Int → Heap → EO RV := fun u h3 => opt (fPick h3 x l u c) h3
noncomputable def stk2 (c : Int) (hi : Option E) (r : Env) (x : RV) : Option Int → Heap → EO RV := fun l h2 => (ePart hi r h2).bind (stk3 c x l)
noncomputable def stk1 (c : Int) (lo hi : Option E) (r : Env) : RV → Heap → EO RV := fun x h1 => (ePart lo r h1).bind (stk2 c hi r x)
theorem q_SlSt {a : E} {lo hi : Option E} {c : Int} {r : Env} {h : Heap} : eSlSt a lo hi c r h = (a r h).bind (stk1 c lo hi r) := (Eq.refl _).trans (Eq.refl _)
theorem q_stk1 {c : Int} {lo hi : Option E} {r : Env} {x : RV} {h : Heap} : stk1 c lo hi r x h = (ePart lo r h).bind (stk2 c hi r x) := (Eq.refl _).trans (Eq.refl _)
theorem q_stk2 {c : Int} {hi : Option E} {r : Env} {x : RV} {l : Option Int} {h : Heap} : stk2 c hi r x l h = (ePart hi r h).bind (stk3 c x l) := (Eq.refl _).trans (Eq.refl _)
theorem q_stk3 {c : Int} {x : RV} {l u : Option Int} {h : Heap} : stk3 c x l u h = opt (fPick h x l u c) h := (Eq.refl _).trans (Eq.refl _)
theorem q_revO {h : Heap} {xs : List Val} : fRev h (.own xs) = some (.own xs.reverse) := (Eq.refl _).trans (Eq.refl _)
theorem q_revR {h : Heap} {xs : List Val} : fRev h (.v (.ro xs)) = some (.own xs.reverse) := (Eq.refl _).trans (Eq.refl _)
theorem q_revW {h : Heap} {xs : List Val} : fRev h (.view xs) = some (.own xs.reverse) := (Eq.refl _).trans (Eq.refl _)
noncomputable def lrj (t : Bool) (x : RV) : RV → Heap → EO RV := fun y h2 => match x, y with | .v (.int i), .v (.int j) => if -(2 ^ 62) ≤ i ∧ i < 2 ^ 62 ∧ -(2 ^ 62) ≤ j ∧ j < 2 ^ 62 ∧ (j - i).toNat ≤ line then .ok (if t then .v (.tup (upTo i (j - i).toNat)) else .own (upTo i (j - i).toNat)) h2 else .no | _, _ => .no
noncomputable def lrk (t : Bool) (b : E) (r : Env) : RV → Heap → EO RV := fun x h1 => (b r h1).bind (lrj t x)
theorem q_LR {t : Bool} {a b : E} {r : Env} {h : Heap} : eLR t a b r h = (a r h).bind (lrk t b r) := (Eq.refl _).trans (Eq.refl _)
theorem q_lrk {t : Bool} {b : E} {r : Env} {x : RV} {h : Heap} : lrk t b r x h = (b r h).bind (lrj t x) := (Eq.refl _).trans (Eq.refl _)
theorem q_lrj {t : Bool} {i j : Int} {h : Heap} : lrj t (.v (.int i)) (.v (.int j)) h = if -(2 ^ 62) ≤ i ∧ i < 2 ^ 62 ∧ -(2 ^ 62) ≤ j ∧ j < 2 ^ 62 ∧ (j - i).toNat ≤ line then .ok (if t then .v (.tup (upTo i (j - i).toNat)) else .own (upTo i (j - i).toNat)) h else .no := (Eq.refl _).trans (Eq.refl _)
noncomputable def r2j (x : RV) : RV → Heap → EO (List Val × List Nat) := fun y h2 => match x, y with | .v (.int i), .v (.int j) => if -(2 ^ 62) ≤ i ∧ i < 2 ^ 62 ∧ -(2 ^ 62) ≤ j ∧ j < 2 ^ 62 then .ok (upTo i (j - i).toNat, []) h2 else .no | _, _ => .no
noncomputable def r2k (b : E) (r : Env) : RV → Heap → EO (List Val × List Nat) := fun x h1 => (b r h1).bind (r2j x)
theorem q_iRng2 {a b : E} {r : Env} {h : Heap} : iRng2 a b r h = (a r h).bind (r2k b r) := (Eq.refl _).trans (Eq.refl _)
theorem q_r2k {b : E} {r : Env} {x : RV} {h : Heap} : r2k b r x h = (b r h).bind (r2j x) := (Eq.refl _).trans (Eq.refl _)
theorem q_r2j {i j : Int} {h : Heap} : r2j (.v (.int i)) (.v (.int j)) h = if -(2 ^ 62) ≤ i ∧ i < 2 ^ 62 ∧ -(2 ^ 62) ≤ j ∧ j < 2 ^ 62 then .ok (upTo i (j - i).toNat, []) h else .no := (Eq.refl _).trans (Eq.refl _)
noncomputable def r3i (x y : RV) : RV → Heap → EO (List Val × List Nat) := fun z h3 => match x, y, z with | .v (.int i), .v (.int j), .v (.int k) => if k ≠ 0 ∧ k.natAbs < 1073741824 ∧ PySem.Builtin.Range.small i j k = true ∧ 0 ≤ PySem.Builtin.Range.rangeSize i j k then .ok (stepTo i k (PySem.Builtin.Range.rangeSize i j k).toNat, []) h3 else .no | _, _, _ => .no
noncomputable def r3j (c : E) (r : Env) (x : RV) : RV → Heap → EO (List Val × List Nat) := fun y h2 => (c r h2).bind (r3i x y)
noncomputable def r3k (b c : E) (r : Env) : RV → Heap → EO (List Val × List Nat) := fun x h1 => (b r h1).bind (r3j c r x)
theorem q_iRng3 {a b c : E} {r : Env} {h : Heap} : iRng3 a b c r h = (a r h).bind (r3k b c r) := (Eq.refl _).trans (Eq.refl _)
theorem q_r3k {b c : E} {r : Env} {x : RV} {h : Heap} : r3k b c r x h = (b r h).bind (r3j c r x) := (Eq.refl _).trans (Eq.refl _)
theorem q_r3j {c : E} {r : Env} {x y : RV} {h : Heap} : r3j c r x y h = (c r h).bind (r3i x y) := (Eq.refl _).trans (Eq.refl _)
theorem q_r3i {i j k : Int} {h : Heap} : r3i (.v (.int i)) (.v (.int j)) (.v (.int k)) h = if k ≠ 0 ∧ k.natAbs < 1073741824 ∧ PySem.Builtin.Range.small i j k = true ∧ 0 ≤ PySem.Builtin.Range.rangeSize i j k then .ok (stepTo i k (PySem.Builtin.Range.rangeSize i j k).toNat, []) h else .no := (Eq.refl _).trans (Eq.refl _)
noncomputable def ulj (is : List Nat) (r : Env) (h : Heap) : Option (Bool × List Val) → SO := fun o => match o with | some (false, xs) => if xs.length = is.length then .nx (setAll is xs r) h else .no | _ => .no
noncomputable def ulk (is : List Nat) (r : Env) : RV → Heap → SO := fun x h1 => ulj is r h1 (look h1 x)
theorem q_sUnpL {is : List Nat} {a : E} {r : Env} {h : Heap} : sUnpL is a r h = (a r h).then r (ulk is r) := (Eq.refl _).trans (Eq.refl _)
theorem q_ulk {is : List Nat} {r : Env} {x : RV} {h : Heap} : ulk is r x h = ulj is r h (look h x) := (Eq.refl _).trans (Eq.refl _)
theorem q_ulj {is : List Nat} {r : Env} {xs : List Val} {h : Heap} : ulj is r h (some (false, xs)) = if xs.length = is.length then .nx (setAll is xs r) h else .no := (Eq.refl _).trans (Eq.refl _)
theorem q_lkO {h : Heap} {xs : List Val} : look h (.own xs) = some (false, xs) := (Eq.refl _).trans (Eq.refl _)
theorem q_lkR {h : Heap} {xs : List Val} : look h (.v (.ro xs)) = some (false, xs) := (Eq.refl _).trans (Eq.refl _)
theorem q_lkW {h : Heap} {xs : List Val} : look h (.view xs) = some (false, xs) := (Eq.refl _).trans (Eq.refl _)
theorem q_lkT {h : Heap} {xs : List Val} : look h (.v (.tup xs)) = some (true, xs) := (Eq.refl _).trans (Eq.refl _)
noncomputable def xam (i : Nat) (r : Env) (xs : List Val) (h : Heap) : Option (List Val) → SO := fun o => match o with | some ys => if xs.length + ys.length ≤ line then .nx (r.set i (some (.own (xs ++ ys)))) h else .no | none => .no
noncomputable def xak (i : Nat) (r : Env) (xs : List Val) : RV → Heap → SO := fun x h1 => xam i r xs h1 (lookA h1 x)
noncomputable def xaj (i : Nat) (a : E) (r : Env) (h : Heap) : Option (Option RV) → SO := fun o => match o with | some (some (.own xs)) => (a r h).then r (xak i r xs) | _ => .no
theorem q_sExtA {i : Nat} {a : E} {r : Env} {h : Heap} : sExtA i a r h = xaj i a r h r[i]? := by unfold sExtA xaj xak xam; rfl
theorem q_xaj {i : Nat} {a : E} {r : Env} {h : Heap} {xs : List Val} : xaj i a r h (some (some (.own xs))) = (a r h).then r (xak i r xs) := (Eq.refl _).trans (Eq.refl _)
theorem q_xak {i : Nat} {r : Env} {xs : List Val} {x : RV} {h : Heap} : xak i r xs x h = xam i r xs h (lookA h x) := (Eq.refl _).trans (Eq.refl _)
theorem q_xam {i : Nat} {r : Env} {xs ys : List Val} {h : Heap} : xam i r xs h (some ys) = if xs.length + ys.length ≤ line then .nx (r.set i (some (.own (xs ++ ys)))) h else .no := (Eq.refl _).trans (Eq.refl _)
theorem q_laO {h : Heap} {xs : List Val} : lookA h (.own xs) = some xs := (Eq.refl _).trans (Eq.refl _)
theorem q_laW {h : Heap} {xs : List Val} : lookA h (.view xs) = some xs := (Eq.refl _).trans (Eq.refl _)
theorem q_laR {h : Heap} {xs : List Val} : lookA h (.v (.ro xs)) = some xs := (Eq.refl _).trans (Eq.refl _)
theorem q_laT {h : Heap} {xs : List Val} : lookA h (.v (.tup xs)) = some xs := (Eq.refl _).trans (Eq.refl _)
noncomputable def l3i (x y : RV) : RV → Heap → EO RV := fun z h3 => match x, y, z with | .v (.int i), .v (.int j), .v (.int k) => if k ≠ 0 ∧ k.natAbs < 1073741824 ∧ PySem.Builtin.Range.small i j k = true ∧ 0 ≤ PySem.Builtin.Range.rangeSize i j k ∧ (PySem.Builtin.Range.rangeSize i j k).toNat ≤ line then .ok (.own (stepTo i k (PySem.Builtin.Range.rangeSize i j k).toNat)) h3 else .no | _, _, _ => .no
noncomputable def l3j (c : E) (r : Env) (x : RV) : RV → Heap → EO RV := fun y h2 => (c r h2).bind (l3i x y)
noncomputable def l3k (b c : E) (r : Env) : RV → Heap → EO RV := fun x h1 => (b r h1).bind (l3j c r x)
theorem q_LR3 {a b c : E} {r : Env} {h : Heap} : eLR3 a b c r h = (a r h).bind (l3k b c r) := (Eq.refl _).trans (Eq.refl _)
theorem q_l3k {b c : E} {r : Env} {x : RV} {h : Heap} : l3k b c r x h = (b r h).bind (l3j c r x) := (Eq.refl _).trans (Eq.refl _)
theorem q_l3j {c : E} {r : Env} {x y : RV} {h : Heap} : l3j c r x y h = (c r h).bind (l3i x y) := (Eq.refl _).trans (Eq.refl _)
theorem q_l3i {i j k : Int} {h : Heap} : l3i (.v (.int i)) (.v (.int j)) (.v (.int k)) h = if k ≠ 0 ∧ k.natAbs < 1073741824 ∧ PySem.Builtin.Range.small i j k = true ∧ 0 ≤ PySem.Builtin.Range.rangeSize i j k ∧ (PySem.Builtin.Range.rangeSize i j k).toNat ≤ line then .ok (.own (stepTo i k (PySem.Builtin.Range.rangeSize i j k).toNat)) h else .no := (Eq.refl _).trans (Eq.refl _)
noncomputable def ssn (i : Nat) (r : Env) (xs : List Val) (l u : Int) (h : Heap) : Option (List Val) → SO := fun o => match o with | some ys => if 0 ≤ l ∧ l ≤ u ∧ u ≤ xs.length ∧ xs.length + ys.length ≤ line then .nx (r.set i (some (.own (xs.take l.toNat ++ ys ++ xs.drop u.toNat)))) h else .no | none => .no
noncomputable def ssm (i : Nat) (r : Env) (x : RV) (xs : List Val) (l : Int) : RV → Heap → SO := fun u h3 => match u with | .v (.int u) => ssn i r xs l u h3 (lookN h3 x) | _ => .no
noncomputable def ssl (i : Nat) (hi : E) (r : Env) (x : RV) (xs : List Val) : RV → Heap → SO := fun l h2 => match l with | .v (.int l) => (hi r h2).then r (ssm i r x xs l) | _ => .no
noncomputable def ssj (i : Nat) (lo hi : E) (r : Env) (x : RV) (h : Heap) : Option (Option RV) → SO := fun o => match o with | some (some (.own xs)) => (lo r h).then r (ssl i hi r x xs) | _ => .no
noncomputable def ssk2 (i : Nat) (lo hi : E) (r : Env) : RV → Heap → SO := fun x h1 => ssj i lo hi r x h1 r[i]?
theorem q_sSetSl {i : Nat} {lo hi a : E} {r : Env} {h : Heap} : sSetSl i lo hi a r h = (a r h).then r (ssk2 i lo hi r) := by unfold sSetSl ssk2 ssj ssl ssm ssn; rfl
theorem q_ssk2 {i : Nat} {lo hi : E} {r : Env} {x : RV} {h : Heap} : ssk2 i lo hi r x h = ssj i lo hi r x h r[i]? := (Eq.refl _).trans (Eq.refl _)
theorem q_ssj {i : Nat} {lo hi : E} {r : Env} {x : RV} {h : Heap} {xs : List Val} : ssj i lo hi r x h (some (some (.own xs))) = (lo r h).then r (ssl i hi r x xs) := (Eq.refl _).trans (Eq.refl _)
theorem q_ssl {i : Nat} {hi : E} {r : Env} {x : RV} {h : Heap} {xs : List Val} {l : Int} : ssl i hi r x xs (.v (.int l)) h = (hi r h).then r (ssm i r x xs l) := (Eq.refl _).trans (Eq.refl _)
theorem q_ssm {i : Nat} {r : Env} {x : RV} {h : Heap} {xs : List Val} {l u : Int} : ssm i r x xs l (.v (.int u)) h = ssn i r xs l u h (lookN h x) := (Eq.refl _).trans (Eq.refl _)
theorem q_ssn {i : Nat} {r : Env} {h : Heap} {xs ys : List Val} {l u : Int} : ssn i r xs l u h (some ys) = if 0 ≤ l ∧ l ≤ u ∧ u ≤ xs.length ∧ xs.length + ys.length ≤ line then .nx (r.set i (some (.own (xs.take l.toNat ++ ys ++ xs.drop u.toNat)))) h else .no := (Eq.refl _).trans (Eq.refl _)
end SM

/-! SMDraw: the draws of the laws. -/
namespace SM
theorem mkFn_eq (n : Nat) (b : S) (args : List RV) (h : Heap) : mkFn n b args h = fin h (b (args.map some ++ List.replicate (n - args.length) none) h) := rfl
theorem hmul_seed {s : Int} (hs : 0 ≤ s) (hs2 : s ≤ 2147483629) : CMul s 48271 := by
  have := bits_lt (i := s) 31 hs (by omega)
  have : PySem.Builtin.Int.intBits 48271 = 16 := by decide +kernel
  show (_ : Int) ≤ _
  omega
theorem draw_ok {h : Heap} {n : Nat} {st : List Val} {m : Int} (hn : h[n]? = some (.lst st)) (hst : IsSt st) (hm : 0 < m) (hl : m.natAbs.log2 < 9000) :
    ∃ v st', fDraw [.v (.obj n), .v (.int m)] h = .ok (.v (.int v)) (h.set n (.lst st')) ∧ IsSt st' ∧ 0 ≤ v ∧ v < m := by
  obtain ⟨ns, a, b, s, rfl, ha, hb, hs, hs2⟩ := hst
  have hlt : n < h.length := (List.getElem?_eq_some_iff.mp hn).1
  have hset : ∀ o, (h.set n o)[n]? = some o := fun o => List.getElem?_set_self hlt
  have hmod0 : ∀ i : Int, 0 ≤ i % m := fun i => Int.emod_nonneg _ (by omega)
  have hmod1 : ∀ i : Int, i % m < m := fun i => Int.emod_lt_of_pos _ hm
  have hmul : CMul s 48271 := hmul_seed hs hs2
  have g0 : ∀ v : Int, (0 : Int) ≤ v % 2147483629 := fun v => by omega
  have i1 : L2.ixN 4 1 = some 1 := by decide
  have i2 : L2.ixN 4 2 = some 2 := by decide
  have i3 : L2.ixN 4 3 = some 3 := by decide
  have dv : ∀ i : Int, 0 ≤ i → 0 ≤ i / m := fun i hi => Int.ediv_nonneg hi (by omega)
  by_cases h0 : a = 0
  · subst h0
    by_cases hz : ((vInts ns).length : Int) ≤ b
    · have e : fDraw [.v (.obj n), .v (.int m)] h = .ok (.v (.int ((s * 48271 + 69621) % 2147483629 / 13 % m))) (h.set n (.lst [.ro (vInts ns), .int 0, .int b, .int ((s * 48271 + 69621) % 2147483629)])) := by
        unfold fDraw
        rw [mkFn_eq]
        unfold bDraw
        simp only [q_C, q_Var, q_evv, q_evo, q_evw, q_e1, q_e1k, q_e2, q_e2k, q_e2j, q_aNil, q_aCons, q_ack, q_acj, q_argv, q_argo, q_argw, q_keeps, q_keepsN, q_kpc, q_keepv, q_keepo, q_Tup, q_etk, q_etj, q_Lst, q_elk, q_elj, q_Call, q_If, q_ift, q_iff, q_tB, q_tbk, q_tTru, q_ttk, q_tAnd, q_takt, q_takf, q_tOr, q_tokt, q_tokf, q_tNot, q_tnk, q_tYes, q_And, q_ndk, q_ndt, q_ndf, q_Or, q_ork, q_ort, q_orf, q_Not, q_ntk, q_ntj, q_trN, q_trB, q_trI, q_trT, q_trR, q_trO, q_trW, q_Chain, q_chk, q_chj, q_chit, q_chif, q_sNil, q_sPass, q_sCons, q_sSet, q_ssv, q_sso, q_sOwn, q_sok, q_sHeap, q_shk, q_sFrz, q_sfj, q_sExpr, q_sxk, q_sRet, q_srv, q_sro, q_sRetOwn, q_roj, q_sRetN, q_sBreak, q_sCont, q_sIf, q_sift, q_siff, q_sApp, q_sapj, q_sapv, q_sapo, q_sExt, q_sexj, q_sexk, q_sexm, q_llo, q_llw, q_llr, q_sSetIx, q_sixv, q_sixo, q_sixj, q_sixl, q_sixm, q_sSetHp, q_hpv, q_hpo, q_hpj, q_hpl, q_hpm, q_hpn, q_sAugHp, q_agk, q_agj, q_agl, q_agm, q_agn, q_ago, q_agp, q_sUnp, q_unk, q_setc, q_setn, q_sPar2, q_p2v, q_p2o, q_p2jv, q_p2jo, q_sAug, q_auj, q_aul, q_aumv, q_aumo, q_sWhile, q_wht, q_whf, q_frk, q_forN, q_forC, q_flk, q_putN, q_putT, q_iok, q_ioj, q_svT, q_svR, q_svS, q_svO, q_seT, q_seR, q_seS, q_seO, q_seW, q_iView, q_ivw, q_ivv, q_iRng1, q_irk, q_Sl, q_slk1, q_slk2, q_slk3, q_ePN, q_ePS, q_epk, q_cutT, q_cutR, q_cutS, q_cutO, q_cutW, q_SlSt, q_stk1, q_stk2, q_stk3, q_revO, q_revR, q_revW, q_LR, q_lrk, q_lrj, q_iRng2, q_r2k, q_r2j, q_iRng3, q_r3k, q_r3j, q_r3i, q_sUnpL, q_ulk, q_ulj, q_lkO, q_lkR, q_lkW, q_lkT, q_sExtA, q_xaj, q_xak, q_xam, q_laO, q_laW, q_laR, q_laT, q_LR3, q_l3k, q_l3j, q_l3i, q_sSetSl, q_ssk2, q_ssj, q_ssl, q_ssm, q_ssn, opt_some, opt_none, EO.bind_ok, EO.bind_ex, EO.then_ok, EO.then_ex, SO.seq_nx, SO.seq_rt, SO.seq_bk, SO.seq_ct, SO.seq_ex, SO.turn_nx, SO.turn_ct, SO.turn_bk, SO.turn_rt, SO.turn_ex, add_ii, sub_ii, and_ii, or_ii, xor_ii, lt_ii, le_ii, gt_ii, ge_ii, max_ii, min_ii, neg_i, abs_i, int_i, eq_ii, ne_ii, len_tup, len_ro, len_own, len_view, list_tup, list_ro, list_scr, list_own, list_view, tuple_tup, tuple_ro, tuple_own, tuple_view, at0, at1, at2, at3, ix_tup, ix_ro, ix_own, ix_view, Option.map_some, line, List.getElem?_cons_zero, List.getElem?_cons_succ, List.getElem?_nil, List.set_cons_zero, List.set_cons_succ, List.set_nil, List.length_cons, List.length_nil, List.map_cons, List.map_nil, List.cons_append, List.nil_append, List.replicate, Bool.not_true, Bool.not_false, if_true, if_false, Bool.false_eq_true, reduceIte, Nat.reduceAdd, Nat.reduceSub, Nat.reduceLeDiff, Nat.reduceEqDiff, decide_true, decide_false, ix_obj hn, ix_obj (hset _), mul_ii hmul, mod_ii (show (0 : Int) < 2147483629 by decide), hz, hn, hset, div_ii (show (0 : Int) < 13 by decide) (by decide +kernel), mod_ii hm, i3]
        exact fin_len List.length_set
      exact ⟨_, _, e, ⟨ns, 0, b, _, rfl, by omega, hb, g0 _, by omega⟩, hmod0 _, hmod1 _⟩
    · have hb' : b.toNat < ns.length := by
        rw [List.length_map] at hz
        omega
      have hat : L2.atI (vInts ns) b = some (.int ns[b.toNat]) := at_nat hb (by rw [List.getElem?_map, List.getElem?_eq_getElem hb']; rfl)
      have e : fDraw [.v (.obj n), .v (.int m)] h = .ok (.v (.int ((if ns[b.toNat] < 0 then -ns[b.toNat] else ns[b.toNat]) % m))) (h.set n (.lst [.ro (vInts ns), .int ((if ns[b.toNat] < 0 then -ns[b.toNat] else ns[b.toNat]) / m), .int (b + 1), .int s])) := by
        unfold fDraw
        rw [mkFn_eq]
        unfold bDraw
        simp only [q_C, q_Var, q_evv, q_evo, q_evw, q_e1, q_e1k, q_e2, q_e2k, q_e2j, q_aNil, q_aCons, q_ack, q_acj, q_argv, q_argo, q_argw, q_keeps, q_keepsN, q_kpc, q_keepv, q_keepo, q_Tup, q_etk, q_etj, q_Lst, q_elk, q_elj, q_Call, q_If, q_ift, q_iff, q_tB, q_tbk, q_tTru, q_ttk, q_tAnd, q_takt, q_takf, q_tOr, q_tokt, q_tokf, q_tNot, q_tnk, q_tYes, q_And, q_ndk, q_ndt, q_ndf, q_Or, q_ork, q_ort, q_orf, q_Not, q_ntk, q_ntj, q_trN, q_trB, q_trI, q_trT, q_trR, q_trO, q_trW, q_Chain, q_chk, q_chj, q_chit, q_chif, q_sNil, q_sPass, q_sCons, q_sSet, q_ssv, q_sso, q_sOwn, q_sok, q_sHeap, q_shk, q_sFrz, q_sfj, q_sExpr, q_sxk, q_sRet, q_srv, q_sro, q_sRetOwn, q_roj, q_sRetN, q_sBreak, q_sCont, q_sIf, q_sift, q_siff, q_sApp, q_sapj, q_sapv, q_sapo, q_sExt, q_sexj, q_sexk, q_sexm, q_llo, q_llw, q_llr, q_sSetIx, q_sixv, q_sixo, q_sixj, q_sixl, q_sixm, q_sSetHp, q_hpv, q_hpo, q_hpj, q_hpl, q_hpm, q_hpn, q_sAugHp, q_agk, q_agj, q_agl, q_agm, q_agn, q_ago, q_agp, q_sUnp, q_unk, q_setc, q_setn, q_sPar2, q_p2v, q_p2o, q_p2jv, q_p2jo, q_sAug, q_auj, q_aul, q_aumv, q_aumo, q_sWhile, q_wht, q_whf, q_frk, q_forN, q_forC, q_flk, q_putN, q_putT, q_iok, q_ioj, q_svT, q_svR, q_svS, q_svO, q_seT, q_seR, q_seS, q_seO, q_seW, q_iView, q_ivw, q_ivv, q_iRng1, q_irk, q_Sl, q_slk1, q_slk2, q_slk3, q_ePN, q_ePS, q_epk, q_cutT, q_cutR, q_cutS, q_cutO, q_cutW, q_SlSt, q_stk1, q_stk2, q_stk3, q_revO, q_revR, q_revW, q_LR, q_lrk, q_lrj, q_iRng2, q_r2k, q_r2j, q_iRng3, q_r3k, q_r3j, q_r3i, q_sUnpL, q_ulk, q_ulj, q_lkO, q_lkR, q_lkW, q_lkT, q_sExtA, q_xaj, q_xak, q_xam, q_laO, q_laW, q_laR, q_laT, q_LR3, q_l3k, q_l3j, q_l3i, q_sSetSl, q_ssk2, q_ssj, q_ssl, q_ssm, q_ssn, opt_some, opt_none, EO.bind_ok, EO.bind_ex, EO.then_ok, EO.then_ex, SO.seq_nx, SO.seq_rt, SO.seq_bk, SO.seq_ct, SO.seq_ex, SO.turn_nx, SO.turn_ct, SO.turn_bk, SO.turn_rt, SO.turn_ex, add_ii, sub_ii, and_ii, or_ii, xor_ii, lt_ii, le_ii, gt_ii, ge_ii, max_ii, min_ii, neg_i, abs_i, int_i, eq_ii, ne_ii, len_tup, len_ro, len_own, len_view, list_tup, list_ro, list_scr, list_own, list_view, tuple_tup, tuple_ro, tuple_own, tuple_view, at0, at1, at2, at3, ix_tup, ix_ro, ix_own, ix_view, Option.map_some, line, List.getElem?_cons_zero, List.getElem?_cons_succ, List.getElem?_nil, List.set_cons_zero, List.set_cons_succ, List.set_nil, List.length_cons, List.length_nil, List.map_cons, List.map_nil, List.cons_append, List.nil_append, List.replicate, Bool.not_true, Bool.not_false, if_true, if_false, Bool.false_eq_true, reduceIte, Nat.reduceAdd, Nat.reduceSub, Nat.reduceLeDiff, Nat.reduceEqDiff, decide_true, decide_false, ix_obj hn, ix_obj (hset _), hat, hz, hn, hset, mod_ii hm, div_ii hm hl, i1, i2, fI0, List.set_set]
        exact fin_len List.length_set
      have hc : (0 : Int) ≤ if ns[b.toNat] < 0 then -ns[b.toNat] else ns[b.toNat] := by
        split <;> omega
      exact ⟨_, _, e, ⟨ns, _, b + 1, s, rfl, dv _ hc, by omega, hs, hs2⟩, hmod0 _, hmod1 _⟩
  · have e : fDraw [.v (.obj n), .v (.int m)] h = .ok (.v (.int (a % m))) (h.set n (.lst [.ro (vInts ns), .int (a / m), .int b, .int s])) := by
      unfold fDraw
      rw [mkFn_eq]
      unfold bDraw
      simp only [q_C, q_Var, q_evv, q_evo, q_evw, q_e1, q_e1k, q_e2, q_e2k, q_e2j, q_aNil, q_aCons, q_ack, q_acj, q_argv, q_argo, q_argw, q_keeps, q_keepsN, q_kpc, q_keepv, q_keepo, q_Tup, q_etk, q_etj, q_Lst, q_elk, q_elj, q_Call, q_If, q_ift, q_iff, q_tB, q_tbk, q_tTru, q_ttk, q_tAnd, q_takt, q_takf, q_tOr, q_tokt, q_tokf, q_tNot, q_tnk, q_tYes, q_And, q_ndk, q_ndt, q_ndf, q_Or, q_ork, q_ort, q_orf, q_Not, q_ntk, q_ntj, q_trN, q_trB, q_trI, q_trT, q_trR, q_trO, q_trW, q_Chain, q_chk, q_chj, q_chit, q_chif, q_sNil, q_sPass, q_sCons, q_sSet, q_ssv, q_sso, q_sOwn, q_sok, q_sHeap, q_shk, q_sFrz, q_sfj, q_sExpr, q_sxk, q_sRet, q_srv, q_sro, q_sRetOwn, q_roj, q_sRetN, q_sBreak, q_sCont, q_sIf, q_sift, q_siff, q_sApp, q_sapj, q_sapv, q_sapo, q_sExt, q_sexj, q_sexk, q_sexm, q_llo, q_llw, q_llr, q_sSetIx, q_sixv, q_sixo, q_sixj, q_sixl, q_sixm, q_sSetHp, q_hpv, q_hpo, q_hpj, q_hpl, q_hpm, q_hpn, q_sAugHp, q_agk, q_agj, q_agl, q_agm, q_agn, q_ago, q_agp, q_sUnp, q_unk, q_setc, q_setn, q_sPar2, q_p2v, q_p2o, q_p2jv, q_p2jo, q_sAug, q_auj, q_aul, q_aumv, q_aumo, q_sWhile, q_wht, q_whf, q_frk, q_forN, q_forC, q_flk, q_putN, q_putT, q_iok, q_ioj, q_svT, q_svR, q_svS, q_svO, q_seT, q_seR, q_seS, q_seO, q_seW, q_iView, q_ivw, q_ivv, q_iRng1, q_irk, q_Sl, q_slk1, q_slk2, q_slk3, q_ePN, q_ePS, q_epk, q_cutT, q_cutR, q_cutS, q_cutO, q_cutW, q_SlSt, q_stk1, q_stk2, q_stk3, q_revO, q_revR, q_revW, q_LR, q_lrk, q_lrj, q_iRng2, q_r2k, q_r2j, q_iRng3, q_r3k, q_r3j, q_r3i, q_sUnpL, q_ulk, q_ulj, q_lkO, q_lkR, q_lkW, q_lkT, q_sExtA, q_xaj, q_xak, q_xam, q_laO, q_laW, q_laR, q_laT, q_LR3, q_l3k, q_l3j, q_l3i, q_sSetSl, q_ssk2, q_ssj, q_ssl, q_ssm, q_ssn, opt_some, opt_none, EO.bind_ok, EO.bind_ex, EO.then_ok, EO.then_ex, SO.seq_nx, SO.seq_rt, SO.seq_bk, SO.seq_ct, SO.seq_ex, SO.turn_nx, SO.turn_ct, SO.turn_bk, SO.turn_rt, SO.turn_ex, add_ii, sub_ii, and_ii, or_ii, xor_ii, lt_ii, le_ii, gt_ii, ge_ii, max_ii, min_ii, neg_i, abs_i, int_i, eq_ii, ne_ii, len_tup, len_ro, len_own, len_view, list_tup, list_ro, list_scr, list_own, list_view, tuple_tup, tuple_ro, tuple_own, tuple_view, at0, at1, at2, at3, ix_tup, ix_ro, ix_own, ix_view, Option.map_some, line, List.getElem?_cons_zero, List.getElem?_cons_succ, List.getElem?_nil, List.set_cons_zero, List.set_cons_succ, List.set_nil, List.length_cons, List.length_nil, List.map_cons, List.map_nil, List.cons_append, List.nil_append, List.replicate, Bool.not_true, Bool.not_false, if_true, if_false, Bool.false_eq_true, reduceIte, Nat.reduceAdd, Nat.reduceSub, Nat.reduceLeDiff, Nat.reduceEqDiff, decide_true, decide_false, ix_obj hn, ix_obj (hset _), h0, hn, hset, mod_ii hm, div_ii hm hl, i1]
      exact fin_len List.length_set
    exact ⟨_, _, e, ⟨ns, _, b, s, rfl, dv _ ha, hb, hs, hs2⟩, hmod0 _, hmod1 _⟩
/-! ### the start -/
noncomputable def lStart : S := sSet 1 (e2 fAdd (e2 fMod (e1 fInt (e2 fAdd (e2 fMul (eVar 1) (eC (.int 48271))) (eVar 2))) (eC (.int 2147483629))) (eC (.int 1)))
noncomputable def bStart : S := sCons (sSet 1 (eC (.int 7))) (sCons (sFor (.nm 2) (iView 0) lStart) (sRet (eLst (aCons (e1 fList (eVar 0)) (aCons (eC (.int 0)) (aCons (eC (.int 0)) (aCons (eVar 1) (aNil))))))))
noncomputable def fStart : Fn := mkFn 3 bStart
theorem start_ok (ns : List Int) (h : Heap) : ∃ st, fStart [.v (.scr (vInts ns))] h = .ok (.own st) h ∧ IsSt st := by
  unfold fStart
  rw [mkFn_eq]
  unfold bStart
  obtain ⟨r2, h2, e, p⟩ := for_ok (g := .nm 2) (it := iView 0) (b := lStart) (r := [some (.v (.scr (vInts ns))), some (.v (.int 7)), none]) (h := h) (h1 := h) (xs := vInts ns)
    (fun _ r h' => ∃ s x, r = [some (.v (.scr (vInts ns))), some (.v (.int s)), x] ∧ h' = h ∧ 0 ≤ s ∧ s ≤ 2147483629) rfl ⟨7, none, rfl, rfl, by decide, by decide⟩ fun k x r h' hk ⟨s, y, e1, e2, h0, h1⟩ => by
      subst e1 e2
      rw [List.getElem?_map] at hk
      cases hq : ns[k]? with
      | none => rw [hq] at hk; cases hk
      | some c =>
        rw [hq] at hk
        cases hk
        refine ⟨_, rfl, [some (.v (.scr (vInts ns))), some (.v (.int ((s * 48271 + c) % 2147483629 + 1))), some (.v (.int c))], h', .inl ?_, _, _, rfl, rfl, ?_⟩
        · unfold lStart
          simp only [q_C, q_Var, q_evv, q_evo, q_evw, q_e1, q_e1k, q_e2, q_e2k, q_e2j, q_aNil, q_aCons, q_ack, q_acj, q_argv, q_argo, q_argw, q_keeps, q_keepsN, q_kpc, q_keepv, q_keepo, q_Tup, q_etk, q_etj, q_Lst, q_elk, q_elj, q_Call, q_If, q_ift, q_iff, q_tB, q_tbk, q_tTru, q_ttk, q_tAnd, q_takt, q_takf, q_tOr, q_tokt, q_tokf, q_tNot, q_tnk, q_tYes, q_And, q_ndk, q_ndt, q_ndf, q_Or, q_ork, q_ort, q_orf, q_Not, q_ntk, q_ntj, q_trN, q_trB, q_trI, q_trT, q_trR, q_trO, q_trW, q_Chain, q_chk, q_chj, q_chit, q_chif, q_sNil, q_sPass, q_sCons, q_sSet, q_ssv, q_sso, q_sOwn, q_sok, q_sHeap, q_shk, q_sFrz, q_sfj, q_sExpr, q_sxk, q_sRet, q_srv, q_sro, q_sRetOwn, q_roj, q_sRetN, q_sBreak, q_sCont, q_sIf, q_sift, q_siff, q_sApp, q_sapj, q_sapv, q_sapo, q_sExt, q_sexj, q_sexk, q_sexm, q_llo, q_llw, q_llr, q_sSetIx, q_sixv, q_sixo, q_sixj, q_sixl, q_sixm, q_sSetHp, q_hpv, q_hpo, q_hpj, q_hpl, q_hpm, q_hpn, q_sAugHp, q_agk, q_agj, q_agl, q_agm, q_agn, q_ago, q_agp, q_sUnp, q_unk, q_setc, q_setn, q_sPar2, q_p2v, q_p2o, q_p2jv, q_p2jo, q_sAug, q_auj, q_aul, q_aumv, q_aumo, q_sWhile, q_wht, q_whf, q_frk, q_forN, q_forC, q_flk, q_putN, q_putT, q_iok, q_ioj, q_svT, q_svR, q_svS, q_svO, q_seT, q_seR, q_seS, q_seO, q_seW, q_iView, q_ivw, q_ivv, q_iRng1, q_irk, q_Sl, q_slk1, q_slk2, q_slk3, q_ePN, q_ePS, q_epk, q_cutT, q_cutR, q_cutS, q_cutO, q_cutW, q_SlSt, q_stk1, q_stk2, q_stk3, q_revO, q_revR, q_revW, q_LR, q_lrk, q_lrj, q_iRng2, q_r2k, q_r2j, q_iRng3, q_r3k, q_r3j, q_r3i, q_sUnpL, q_ulk, q_ulj, q_lkO, q_lkR, q_lkW, q_lkT, q_sExtA, q_xaj, q_xak, q_xam, q_laO, q_laW, q_laR, q_laT, q_LR3, q_l3k, q_l3j, q_l3i, q_sSetSl, q_ssk2, q_ssj, q_ssl, q_ssm, q_ssn, opt_some, opt_none, EO.bind_ok, EO.bind_ex, EO.then_ok, EO.then_ex, SO.seq_nx, SO.seq_rt, SO.seq_bk, SO.seq_ct, SO.seq_ex, SO.turn_nx, SO.turn_ct, SO.turn_bk, SO.turn_rt, SO.turn_ex, add_ii, sub_ii, and_ii, or_ii, xor_ii, lt_ii, le_ii, gt_ii, ge_ii, max_ii, min_ii, neg_i, abs_i, int_i, eq_ii, ne_ii, len_tup, len_ro, len_own, len_view, list_tup, list_ro, list_scr, list_own, list_view, tuple_tup, tuple_ro, tuple_own, tuple_view, at0, at1, at2, at3, ix_tup, ix_ro, ix_own, ix_view, Option.map_some, line, List.getElem?_cons_zero, List.getElem?_cons_succ, List.getElem?_nil, List.set_cons_zero, List.set_cons_succ, List.set_nil, List.length_cons, List.length_nil, List.map_cons, List.map_nil, List.cons_append, List.nil_append, List.replicate, Bool.not_true, Bool.not_false, if_true, if_false, Bool.false_eq_true, reduceIte, Nat.reduceAdd, Nat.reduceSub, Nat.reduceLeDiff, Nat.reduceEqDiff, decide_true, decide_false, mul_ii (hmul_seed h0 h1), mod_ii (show (0 : Int) < 2147483629 by decide)]
        · omega
  obtain ⟨s, y, e1, e2, h0, h1⟩ := p
  subst e1 e2
  refine ⟨[.ro (vInts ns), .int 0, .int 0, .int s], ?_, ⟨ns, 0, 0, s, rfl, by decide, by decide, h0, h1⟩⟩
  have l4 : 0 + 1 + 1 + 1 + 1 ≤ line := by decide
  simp only [q_C, q_Var, q_evv, q_evo, q_evw, q_e1, q_e1k, q_e2, q_e2k, q_e2j, q_aNil, q_aCons, q_ack, q_acj, q_argv, q_argo, q_argw, q_keeps, q_keepsN, q_kpc, q_keepv, q_keepo, q_Tup, q_etk, q_etj, q_Lst, q_elk, q_elj, q_Call, q_If, q_ift, q_iff, q_tB, q_tbk, q_tTru, q_ttk, q_tAnd, q_takt, q_takf, q_tOr, q_tokt, q_tokf, q_tNot, q_tnk, q_tYes, q_And, q_ndk, q_ndt, q_ndf, q_Or, q_ork, q_ort, q_orf, q_Not, q_ntk, q_ntj, q_trN, q_trB, q_trI, q_trT, q_trR, q_trO, q_trW, q_Chain, q_chk, q_chj, q_chit, q_chif, q_sNil, q_sPass, q_sCons, q_sSet, q_ssv, q_sso, q_sOwn, q_sok, q_sHeap, q_shk, q_sFrz, q_sfj, q_sExpr, q_sxk, q_sRet, q_srv, q_sro, q_sRetOwn, q_roj, q_sRetN, q_sBreak, q_sCont, q_sIf, q_sift, q_siff, q_sApp, q_sapj, q_sapv, q_sapo, q_sExt, q_sexj, q_sexk, q_sexm, q_llo, q_llw, q_llr, q_sSetIx, q_sixv, q_sixo, q_sixj, q_sixl, q_sixm, q_sSetHp, q_hpv, q_hpo, q_hpj, q_hpl, q_hpm, q_hpn, q_sAugHp, q_agk, q_agj, q_agl, q_agm, q_agn, q_ago, q_agp, q_sUnp, q_unk, q_setc, q_setn, q_sPar2, q_p2v, q_p2o, q_p2jv, q_p2jo, q_sAug, q_auj, q_aul, q_aumv, q_aumo, q_sWhile, q_wht, q_whf, q_frk, q_forN, q_forC, q_flk, q_putN, q_putT, q_iok, q_ioj, q_svT, q_svR, q_svS, q_svO, q_seT, q_seR, q_seS, q_seO, q_seW, q_iView, q_ivw, q_ivv, q_iRng1, q_irk, q_Sl, q_slk1, q_slk2, q_slk3, q_ePN, q_ePS, q_epk, q_cutT, q_cutR, q_cutS, q_cutO, q_cutW, q_SlSt, q_stk1, q_stk2, q_stk3, q_revO, q_revR, q_revW, q_LR, q_lrk, q_lrj, q_iRng2, q_r2k, q_r2j, q_iRng3, q_r3k, q_r3j, q_r3i, q_sUnpL, q_ulk, q_ulj, q_lkO, q_lkR, q_lkW, q_lkT, q_sExtA, q_xaj, q_xak, q_xam, q_laO, q_laW, q_laR, q_laT, q_LR3, q_l3k, q_l3j, q_l3i, q_sSetSl, q_ssk2, q_ssj, q_ssl, q_ssm, q_ssn, opt_some, opt_none, EO.bind_ok, EO.bind_ex, EO.then_ok, EO.then_ex, SO.seq_nx, SO.seq_rt, SO.seq_bk, SO.seq_ct, SO.seq_ex, SO.turn_nx, SO.turn_ct, SO.turn_bk, SO.turn_rt, SO.turn_ex, add_ii, sub_ii, and_ii, or_ii, xor_ii, lt_ii, le_ii, gt_ii, ge_ii, max_ii, min_ii, neg_i, abs_i, int_i, eq_ii, ne_ii, len_tup, len_ro, len_own, len_view, list_tup, list_ro, list_scr, list_own, list_view, tuple_tup, tuple_ro, tuple_own, tuple_view, at0, at1, at2, at3, ix_tup, ix_ro, ix_own, ix_view, Option.map_some, line, List.getElem?_cons_zero, List.getElem?_cons_succ, List.getElem?_nil, List.set_cons_zero, List.set_cons_succ, List.set_nil, List.length_cons, List.length_nil, List.map_cons, List.map_nil, List.cons_append, List.nil_append, List.replicate, Bool.not_true, Bool.not_false, if_true, if_false, Bool.false_eq_true, reduceIte, Nat.reduceAdd, Nat.reduceSub, Nat.reduceLeDiff, Nat.reduceEqDiff, decide_true, decide_false, e, l4]
  exact fin_self
end SM

/-! SMBits: numbers of bits; loops that fold. -/
namespace SM
theorem n_and (a b : Nat) : PySem.Builtin.bitAnd (a : Int) (b : Int) = ((a &&& b : Nat) : Int) := by
  rw [PyProof.Rows.bitAnd_pp (Int.natCast_nonneg a) (Int.natCast_nonneg b), Int.toNat_natCast, Int.toNat_natCast]
theorem n_or (a b : Nat) : PySem.Builtin.bitOr (a : Int) (b : Int) = ((a ||| b : Nat) : Int) := by
  rw [L2.bitOr_nn (Int.natCast_nonneg a) (Int.natCast_nonneg b), Int.toNat_natCast, Int.toNat_natCast]
theorem n_xor (a b : Nat) : PySem.Builtin.bitXor (a : Int) (b : Int) = ((a ^^^ b : Nat) : Int) := by
  rw [Bits.bitXor_pp (Int.natCast_nonneg a) (Int.natCast_nonneg b), Int.toNat_natCast, Int.toNat_natCast]
theorem n_mul2 (a k : Nat) : (a : Int) * 2 ^ k = ((a * 2 ^ k : Nat) : Int) := by
  rw [Int.natCast_mul, PySem.W.kbt_cast]
theorem n_div2 (a k : Nat) : (a : Int) / 2 ^ k = ((a / 2 ^ k : Nat) : Int) := by
  rw [Int.natCast_ediv, PySem.W.kbt_cast]
theorem n_mod2 (a k : Nat) : (a : Int) % 2 ^ k = ((a % 2 ^ k : Nat) : Int) := by
  rw [Int.natCast_emod, PySem.W.kbt_cast]
theorem n_mask (a k : Nat) : PySem.Builtin.bitAnd (a : Int) (2 ^ k - 1) = ((a % 2 ^ k : Nat) : Int) := by
  rw [PySem.W.kbt_mask, n_mod2]
/-- an or of bits and what is turned out above: an xor -/
theorem rot_or (n w k : Nat) (hw : w < 2 ^ n) (hk : k ≤ n) : (w * 2 ^ k ||| w / 2 ^ (n - k)) % 2 ^ n = (w * 2 ^ k) % 2 ^ n ^^^ w / 2 ^ (n - k) := by
  refine Nat.eq_of_testBit_eq fun i => ?_
  rw [← Nat.shiftLeft_eq, ← Nat.shiftRight_eq_div_pow]
  simp only [Nat.testBit_mod_two_pow, Nat.testBit_or, Nat.testBit_xor, Nat.testBit_shiftLeft, Nat.testBit_shiftRight]
  by_cases h1 : i < k
  · have h2 : i < n := by omega
    have h3 : ¬ (i ≥ k) := by omega
    simp [h2, h3]
  · have h2 : w.testBit (n - k + i) = false := Nat.testBit_lt_two_pow (Nat.lt_of_lt_of_le hw (Nat.pow_le_pow_right (by decide) (by omega)))
    rw [h2]
    simp
theorem rot_lt (n w k : Nat) : (w * 2 ^ k ||| w / 2 ^ (n - k)) % 2 ^ n < 2 ^ n := Nat.mod_lt _ (Nat.two_pow_pos n)
theorem intBits_nat {a n : Nat} (h : a < 2 ^ (n + 1)) : PySem.Builtin.Int.intBits (a : Int) ≤ n + 1 := bits_lt n (Int.natCast_nonneg a) (by rw [← PySem.W.kbt_cast]; exact Int.ofNat_lt.mpr h)
/-- a loop that folds -/
theorem for_fold {α : Type} {g : Tg} {it : I} {b : S} {r : Env} {h h1 : Heap} {xs : List Val} (F : α → Val → α) (R : α → Env → Heap → Prop) (a0 : α) (hi : it r h = .ok (xs, []) h1) (p : R a0 r h1)
    (st : ∀ (x : Val), x ∈ xs → ∀ (a : α) (r : Env) (h : Heap), R a r h → ∃ r1, g.put x r = some r1 ∧ ∃ r2 h2, b r1 h = .nx r2 h2 ∧ R (F a x) r2 h2) :
    ∃ r2 h2, sFor g it b r h = .nx r2 h2 ∧ R (xs.foldl F a0) r2 h2 := by
  obtain ⟨r2, h2, e, q⟩ := for_ok (g := g) (b := b) (fun k r h => R ((xs.take k).foldl F a0) r h) hi p fun k x r h hk q => by
    obtain ⟨r1, e1, r2, h2, eb, q2⟩ := st x (List.mem_of_getElem? hk) _ r h q
    refine ⟨r1, e1, r2, h2, .inl eb, ?_⟩
    show R ((xs.take (k + 1)).foldl F a0) r2 h2
    rw [List.take_add_one, hk, List.foldl_append]
    exact q2
  rw [List.take_length] at q
  exact ⟨r2, h2, e, q⟩
theorem upTo_mem : ∀ (n : Nat) (lo : Int) (x : Val), x ∈ upTo lo n → ∃ i : Nat, i < n ∧ x = .int (lo + i)
  | 0, lo, x, h => by
    unfold upTo at h
    cases h
  | n + 1, lo, x, h => by
    unfold upTo at h
    rcases List.mem_cons.mp h with h | h
    · exact ⟨0, by omega, by rw [h]; simp⟩
    · obtain ⟨i, hi, e⟩ := upTo_mem n (lo + 1) x h
      exact ⟨i + 1, by omega, by rw [e]; congr 1; omega⟩
theorem upTo_map : ∀ (n : Nat) (lo : Nat), upTo (lo : Int) n = (List.range' lo n).map fun i : Nat => Val.int (i : Int)
  | 0, lo => by
    unfold upTo
    rfl
  | n + 1, lo => by
    unfold upTo
    rw [List.range'_succ, List.map_cons, ← upTo_map n (lo + 1)]
    rfl
/-! ### lists of naturals -/
theorem vNats_ints (ns : List Nat) : vNats ns = vInts (ns.map fun n : Nat => (n : Int)) := by
  show _ = List.map _ (List.map _ _)
  rw [List.map_map]
  rfl
theorem nats_get {ns : List Nat} {i : Nat} (h : i < ns.length) : (vNats ns)[i]? = some (.int (ns[i] : Nat)) := by
  rw [List.getElem?_map, List.getElem?_eq_getElem h]
  rfl
theorem nats_at {ns : List Nat} {i : Nat} (h : i < ns.length) : L2.atI (vNats ns) (i : Int) = some (.int (ns[i] : Nat)) := L2.atI_nat (nats_get h)
theorem nats_set {ns : List Nat} {i n : Nat} : (vNats ns).set i (.int (n : Int)) = vNats (ns.set i n) := by
  show List.set (List.map _ _) _ _ = List.map _ _
  rw [List.map_set]
theorem nats_len {ns : List Nat} : (vNats ns).length = ns.length := List.length_map _
theorem ixN_nat {n i : Nat} (h : i < n) : L2.ixN n (i : Int) = some i := by
  rw [ixN_lit (Int.natCast_nonneg i) (Int.ofNat_lt.mpr h), Int.toNat_natCast]
theorem under_ints (n : Nat) : ∀ ns : List Int, underAll n (vInts ns)
  | [] => by show underAll n []; unfold underAll; trivial
  | i :: ns => by
    show underAll n (.int i :: vInts ns)
    unfold underAll
    exact ⟨by unfold Val.under; trivial, under_ints n ns⟩
theorem under_nats (n : Nat) (ns : List Nat) : underAll n (vNats ns) := by
  rw [vNats_ints]
  exact under_ints n _
theorem under_tup (n : Nat) (ns : List Nat) : (RV.v (.tup (vNats ns))).under n := by
  unfold RV.under Val.under
  exact under_nats n ns
theorem under_own (n : Nat) (ns : List Nat) : (RV.own (vNats ns)).under n := by
  unfold RV.under
  exact under_nats n ns
/-! ### equality of lists of numbers -/
theorem eq_tt {h : Heap} {ns ms : List Int} : fEq false h (.v (.tup (vInts ns))) (.v (.tup (vInts ms))) = some (.v (.bool (decide (ns = ms)))) := by
  unfold fEq toDR
  dsimp only
  unfold toD
  rw [toDs_ints, toDs_ints]
  dsimp only [Option.map_some]
  rw [if_pos ⟨shaped_tup ns, shaped_tup ms⟩]
  unfold PySem.PyData.eqv
  rw [eqv_ints]
  rfl
theorem eq_ll {h : Heap} {x y : RV} {ns ms : List Int} (hx : toDR h x = (toDs (vInts ns)).map .list) (hy : toDR h y = (toDs (vInts ms)).map .list) : fEq false h x y = some (.v (.bool (decide (ns = ms)))) := by
  unfold fEq
  rw [hx, hy, toDs_ints, toDs_ints]
  dsimp only [Option.map_some]
  rw [if_pos ⟨shaped_lst ns, shaped_lst ms⟩]
  unfold PySem.PyData.eqv
  rw [eqv_ints]
  rfl
theorem eq_or {h : Heap} {ns ms : List Int} : fEq false h (.own (vInts ns)) (.v (.ro (vInts ms))) = some (.v (.bool (decide (ns = ms)))) := eq_ll rfl (by unfold toDR; dsimp only; unfold toD; rfl)
end SM

/-! SMStep2: the machine in small steps, continued (printed by mkstep2.py). -/
namespace SM
open PySem (Str)
noncomputable def fldO (cs : List Str) (f : Str) : Option HObj → Option RV := fun o => match o with | some (.ins c fs) => if c ∈ cs then (fs.lookup f).map .v else none | _ => none
theorem q_fFld {cs : List Str} {f : Str} {h : Heap} {n : Nat} : fFld cs f h (.v (.obj n)) = fldO cs f h[n]? := (Eq.refl _).trans (Eq.refl _)
noncomputable def fsO (r : Env) (h : Heap) (m : Nat) (cs : List Str) (f : Str) (y : Val) : Option HObj → SO := fun o => match o with | some (.ins c fs) => if c ∈ cs ∧ fs.length < 1000 then .nx r (h.set m (.ins c (putA f y fs))) else .no | _ => .no
noncomputable def fsj (r : Env) (cs : List Str) (f : Str) (y : Val) : RV → Heap → SO := fun p h2 => match p with | .v (.obj m) => fsO r h2 m cs f y h2[m]? | _ => .no
noncomputable def fsk (cs : List Str) (f : Str) (o : E) (r : Env) : RV → Heap → SO := fun x h1 => match x.keep with | some y => (o r h1).then r (fsj r cs f y) | none => .no
theorem q_sFldSet {cs : List Str} {f : Str} {o a : E} {r : Env} {h : Heap} : sFldSet cs f o a r h = (a r h).then r (fsk cs f o r) := by unfold sFldSet fsk fsj fsO; rfl
theorem q_fskv {cs : List Str} {f : Str} {o : E} {r : Env} {x : Val} {h : Heap} : fsk cs f o r (.v x) h = (o r h).then r (fsj r cs f x) := (Eq.refl _).trans (Eq.refl _)
theorem q_fsko {cs : List Str} {f : Str} {o : E} {r : Env} {x : List Val} {h : Heap} : fsk cs f o r (.own x) h = (o r h).then r (fsj r cs f (.ro x)) := (Eq.refl _).trans (Eq.refl _)
theorem q_fsj {r : Env} {cs : List Str} {f : Str} {y : Val} {m : Nat} {h : Heap} : fsj r cs f y (.v (.obj m)) h = fsO r h m cs f y h[m]? := (Eq.refl _).trans (Eq.refl _)
noncomputable def fhk (cs : List Str) (f : Str) (o : E) (r : Env) : RV → Heap → SO := fun x h1 => match x with | .own xs => (o r (h1 ++ [.lst xs])).then r (fsj r cs f (.obj h1.length)) | _ => .no
theorem q_sFldHp {cs : List Str} {f : Str} {o a : E} {r : Env} {h : Heap} : sFldHp cs f o a r h = (a r h).then r (fhk cs f o r) := by unfold sFldHp fhk fsj fsO; rfl
theorem q_fhk {cs : List Str} {f : Str} {o : E} {r : Env} {xs : List Val} {h : Heap} : fhk cs f o r (.own xs) h = (o r (h ++ [.lst xs])).then r (fsj r cs f (.obj h.length)) := (Eq.refl _).trans (Eq.refl _)
noncomputable def faO (r : Env) (h : Heap) (m : Nat) (c : Str) (f : Str) (z : Val) : Option HObj → SO := fun o => match o with | some (.ins c' fs') => if c' = c ∧ fs'.length < 1000 then .nx r (h.set m (.ins c' (putA f z fs'))) else .no | _ => .no
noncomputable def fam (r : Env) (h : Heap) (m : Nat) (c : Str) (f : Str) : Option RV → SO := fun o => match o with | some z => (match z.keep with | some z => faO r h m c f z h[m]? | none => .no) | none => .no
noncomputable def fal (g : F2) (r : Env) (m : Nat) (c : Str) (f : Str) (x : Val) : RV → Heap → SO := fun y h2 => fam r h2 m c f (g h2 (.v x) y)
noncomputable def faj (g : F2) (a : E) (r : Env) (h : Heap) (m : Nat) (c : Str) (f : Str) : Option Val → SO := fun o => match o with | some x => (a r h).then r (fal g r m c f x) | none => .no
noncomputable def faP (cs : List Str) (f : Str) (g : F2) (a : E) (r : Env) (h : Heap) (m : Nat) : Option HObj → SO := fun o => match o with | some (.ins c fs) => if c ∈ cs then faj g a r h m c f (fs.lookup f) else .no | _ => .no
noncomputable def fak (cs : List Str) (f : Str) (g : F2) (a : E) (r : Env) : RV → Heap → SO := fun p h1 => match p with | .v (.obj m) => faP cs f g a r h1 m h1[m]? | _ => .no
theorem q_sFldAug {cs : List Str} {f : Str} {g : F2} {o a : E} {r : Env} {h : Heap} : sFldAug cs f g o a r h = (o r h).then r (fak cs f g a r) := by unfold sFldAug fak faP faj fal fam faO; rfl
theorem q_fak {cs : List Str} {f : Str} {g : F2} {a : E} {r : Env} {m : Nat} {h : Heap} : fak cs f g a r (.v (.obj m)) h = faP cs f g a r h m h[m]? := (Eq.refl _).trans (Eq.refl _)
theorem q_faj {g : F2} {a : E} {r : Env} {h : Heap} {m : Nat} {c f : Str} {x : Val} : faj g a r h m c f (some x) = (a r h).then r (fal g r m c f x) := (Eq.refl _).trans (Eq.refl _)
theorem q_fal {g : F2} {r : Env} {m : Nat} {c f : Str} {x : Val} {y : RV} {h : Heap} : fal g r m c f x y h = fam r h m c f (g h (.v x) y) := (Eq.refl _).trans (Eq.refl _)
theorem q_famv {r : Env} {h : Heap} {m : Nat} {c f : Str} {z : Val} : fam r h m c f (some (.v z)) = faO r h m c f z h[m]? := (Eq.refl _).trans (Eq.refl _)
theorem q_famo {r : Env} {h : Heap} {m : Nat} {c f : Str} {z : List Val} : fam r h m c f (some (.own z)) = faO r h m c f (.ro z) h[m]? := (Eq.refl _).trans (Eq.refl _)
noncomputable def fnk (fn : Fn) (x : RV) : List RV → Heap → EO RV := fun xs h2 => fn (x :: xs) h2
theorem q_fnk {fn : Fn} {x : RV} {xs : List RV} {h : Heap} : fnk fn x xs h = fn (x :: xs) h := (Eq.refl _).trans (Eq.refl _)
noncomputable def mtO (tb : MTab) (m : Str) (as : A) (r : Env) (n : Nat) (h : Heap) : Option HObj → EO RV := fun o => match o with | some (.ins c fs) => (match fs.lookup m with | none => (match tb.lookup c with | some fn => (as r h).bind (fnk fn (.v (.obj n))) | none => .no) | some _ => .no) | _ => .no
theorem q_eMeth {tb : MTab} {m : Str} {o : E} {as : A} {r : Env} {h : Heap} : eMeth tb m o as r h = (o r h).bind (methK tb m as r) := (Eq.refl _).trans (Eq.refl _)
theorem q_methK {tb : MTab} {m : Str} {as : A} {r : Env} {n : Nat} {h : Heap} : methK tb m as r (.v (.obj n)) h = mtO tb m as r n h h[n]? := by unfold methK mtO fnk; rfl
noncomputable def ppO (tb : MTab) (n : Nat) (h : Heap) : Option HObj → EO RV := fun o => match o with | some (.ins c fs) => (match tb.lookup c with | some fn => (fn [.v (.obj n)] h).noEx | none => .no) | _ => .no
theorem q_eProp {tb : MTab} {o : E} {r : Env} {h : Heap} : eProp tb o r h = (o r h).bind (propK tb) := (Eq.refl _).trans (Eq.refl _)
theorem q_propK {tb : MTab} {n : Nat} {h : Heap} : propK tb (.v (.obj n)) h = ppO tb n h h[n]? := by unfold propK ppO; rfl
theorem q_noEx {α : Type} {x : α} {h : Heap} : (EO.ok x h).noEx = .ok x h := (Eq.refl _).trans (Eq.refl _)
noncomputable def mkj (c : Str) (fn : Fn) : List RV → Heap → EO RV := fun xs h1 => (fn (.v (.obj h1.length) :: xs) (h1 ++ [.ins c []])).bind (makeK h1.length)
theorem q_eMake {c : Str} {fn : Fn} {as : A} {r : Env} {h : Heap} : eMake c fn as r h = (as r h).bind (mkj c fn) := (Eq.refl _).trans (Eq.refl _)
theorem q_mkj {c : Str} {fn : Fn} {xs : List RV} {h : Heap} : mkj c fn xs h = (fn (.v (.obj h.length) :: xs) (h ++ [.ins c []])).bind (makeK h.length) := (Eq.refl _).trans (Eq.refl _)
theorem q_makeK {n : Nat} {h : Heap} : makeK n (.v .none) h = .ok (.v (.obj n)) h := (Eq.refl _).trans (Eq.refl _)
noncomputable def mwj (c : Str) (fn : Fn) (gS : Arr) (xs : List RV) : List RV → Heap → EO RV := fun zs h2 => (fn (gS (.v (.obj h2.length) :: xs) zs) (h2 ++ [.ins c []])).bind (makeK h2.length)
noncomputable def mwk (c : Str) (fn : Fn) (ks : A) (gS : Arr) (r : Env) : List RV → Heap → EO RV := fun xs h1 => (ks r h1).bind (mwj c fn gS xs)
theorem q_eMakeKw {c : Str} {fn : Fn} {as ks : A} {gS : Arr} {r : Env} {h : Heap} : eMakeKw c fn as ks gS r h = (as r h).bind (mwk c fn ks gS r) := (Eq.refl _).trans (Eq.refl _)
theorem q_mwk {c : Str} {fn : Fn} {ks : A} {gS : Arr} {r : Env} {xs : List RV} {h : Heap} : mwk c fn ks gS r xs h = (ks r h).bind (mwj c fn gS xs) := (Eq.refl _).trans (Eq.refl _)
theorem q_mwj {c : Str} {fn : Fn} {gS : Arr} {xs zs : List RV} {h : Heap} : mwj c fn gS xs zs h = (fn (gS (.v (.obj h.length) :: xs) zs) (h ++ [.ins c []])).bind (makeK h.length) := (Eq.refl _).trans (Eq.refl _)
noncomputable def ckj (fn : Fn) (gS : Arr) (xs : List RV) : List RV → Heap → EO RV := fun zs h2 => fn (gS xs zs) h2
noncomputable def ckk (fn : Fn) (ks : A) (gS : Arr) (r : Env) : List RV → Heap → EO RV := fun xs h1 => (ks r h1).bind (ckj fn gS xs)
theorem q_eCallK {fn : Fn} {as ks : A} {gS : Arr} {r : Env} {h : Heap} : eCallK fn as ks gS r h = (as r h).bind (ckk fn ks gS r) := (Eq.refl _).trans (Eq.refl _)
theorem q_ckk {fn : Fn} {ks : A} {gS : Arr} {r : Env} {xs : List RV} {h : Heap} : ckk fn ks gS r xs h = (ks r h).bind (ckj fn gS xs) := (Eq.refl _).trans (Eq.refl _)
theorem q_ckj {fn : Fn} {gS : Arr} {xs zs : List RV} {h : Heap} : ckj fn gS xs zs h = fn (gS xs zs) h := (Eq.refl _).trans (Eq.refl _)
noncomputable def apO2 (r : Env) (m : Nat) (y : Val) (h : Heap) : Option HObj → SO := fun o => match o with | some (.lst xs) => if xs.length < line then .nx r (h.set m (.lst (xs ++ [y]))) else .no | _ => .no
noncomputable def apO1 (a : E) (r : Env) (m : Nat) (h : Heap) : Option HObj → SO := fun o => match o with | some (.lst _) => (a r h).then r (appHj r m) | _ => .no
theorem q_sAppHp {o a : E} {r : Env} {h : Heap} : sAppHp o a r h = (o r h).then r (appHk a r) := (Eq.refl _).trans (Eq.refl _)
theorem q_appHk {a : E} {r : Env} {m : Nat} {h : Heap} : appHk a r (.v (.obj m)) h = apO1 a r m h h[m]? := by unfold appHk apO1; rfl
theorem q_apO1 {a : E} {r : Env} {m : Nat} {h : Heap} {xs : List Val} : apO1 a r m h (some (.lst xs)) = (a r h).then r (appHj r m) := (Eq.refl _).trans (Eq.refl _)
theorem q_appHjv {r : Env} {m : Nat} {x : Val} {h : Heap} : appHj r m (.v x) h = apO2 r m x h h[m]? := by unfold appHj apO2; rfl
theorem q_appHjo {r : Env} {m : Nat} {x : List Val} {h : Heap} : appHj r m (.own x) h = apO2 r m (.ro x) h h[m]? := by unfold appHj apO2; rfl
theorem q_apO2 {r : Env} {m : Nat} {y : Val} {h : Heap} {xs : List Val} : apO2 r m y h (some (.lst xs)) = if xs.length < line then .nx r (h.set m (.lst (xs ++ [y]))) else .no := (Eq.refl _).trans (Eq.refl _)
theorem q_sRaise {x : Str} {r : Env} {h : Heap} : sRaise x r h = .ex ⟨x, []⟩ r h := (Eq.refl _).trans (Eq.refl _)
noncomputable def tah (i : Nat) (su : Exn → Nat → Nat → S) (e : Exn) (r : Env) (h : Heap) : SO := if i < r.length then allA fun a dx => (su e a dx (r.set i (some (.v (.err a dx (e.args.take 1))))) h).clear i else .no
noncomputable def tao (i : Nat) (su : Exn → Nat → Nat → S) (e : Exn) (r : Env) (h : Heap) : Option Bool → SO := fun o => match o with | some true => tah i su e r h | some false => .ex e r h | none => .no
noncomputable def tak1 (i : Nat) (hit : Hit) (su : Exn → Nat → Nat → S) : SO → SO := fun o => match o with | .ex e r h => tao i su e r h (hit.lookup e.cls) | o => o
theorem q_sTryAs {i : Nat} {hit : Hit} {b : S} {su : Exn → Nat → Nat → S} {r : Env} {h : Heap} : sTryAs i hit b su r h = tak1 i hit su (b r h) := by unfold sTryAs tak1 tao tah; rfl
theorem q_tanx {i : Nat} {hit : Hit} {su : Exn → Nat → Nat → S} {r : Env} {h : Heap} : tak1 i hit su (.nx r h) = .nx r h := (Eq.refl _).trans (Eq.refl _)
theorem q_tart {i : Nat} {hit : Hit} {su : Exn → Nat → Nat → S} {x : RV} {h : Heap} : tak1 i hit su (.rt x h) = .rt x h := (Eq.refl _).trans (Eq.refl _)
theorem q_taex {i : Nat} {hit : Hit} {su : Exn → Nat → Nat → S} {e : Exn} {r : Env} {h : Heap} : tak1 i hit su (.ex e r h) = tao i su e r h (hit.lookup e.cls) := (Eq.refl _).trans (Eq.refl _)
theorem q_taot {i : Nat} {su : Exn → Nat → Nat → S} {e : Exn} {r : Env} {h : Heap} : tao i su e r h (some true) = tah i su e r h := (Eq.refl _).trans (Eq.refl _)
theorem q_taof {i : Nat} {su : Exn → Nat → Nat → S} {e : Exn} {r : Env} {h : Heap} : tao i su e r h (some false) = .ex e r h := (Eq.refl _).trans (Eq.refl _)
theorem q_tah {i : Nat} {su : Exn → Nat → Nat → S} {e : Exn} {r : Env} {h : Heap} : tah i su e r h = if i < r.length then allA fun a dx => (su e a dx (r.set i (some (.v (.err a dx (e.args.take 1))))) h).clear i else .no := (Eq.refl _).trans (Eq.refl _)
noncomputable def tto (su : Exn → S) (e : Exn) (r : Env) (h : Heap) : Option Bool → SO := fun o => match o with | some true => (su e r h).noEx | some false => .ex e r h | none => .no
noncomputable def ttk1 (hit : Hit) (su : Exn → S) : SO → SO := fun o => match o with | .ex e r h => tto su e r h (hit.lookup e.cls) | o => o
theorem q_sTry {hit : Hit} {b : S} {su : Exn → S} {r : Env} {h : Heap} : sTry hit b su r h = ttk1 hit su (b r h) := by unfold sTry ttk1 tto; rfl
theorem q_ttnx {hit : Hit} {su : Exn → S} {r : Env} {h : Heap} : ttk1 hit su (.nx r h) = .nx r h := (Eq.refl _).trans (Eq.refl _)
theorem q_ttrt {hit : Hit} {su : Exn → S} {x : RV} {h : Heap} : ttk1 hit su (.rt x h) = .rt x h := (Eq.refl _).trans (Eq.refl _)
theorem q_ttex {hit : Hit} {su : Exn → S} {e : Exn} {r : Env} {h : Heap} : ttk1 hit su (.ex e r h) = tto su e r h (hit.lookup e.cls) := (Eq.refl _).trans (Eq.refl _)
theorem q_ttot {su : Exn → S} {e : Exn} {r : Env} {h : Heap} : tto su e r h (some true) = (su e r h).noEx := (Eq.refl _).trans (Eq.refl _)
theorem q_ttof {su : Exn → S} {e : Exn} {r : Env} {h : Heap} : tto su e r h (some false) = .ex e r h := (Eq.refl _).trans (Eq.refl _)
theorem q_noErt {x : RV} {h : Heap} : (SO.rt x h).noEx = .rt x h := (Eq.refl _).trans (Eq.refl _)
theorem q_noEnx {r : Env} {h : Heap} : (SO.nx r h).noEx = .nx r h := (Eq.refl _).trans (Eq.refl _)
theorem q_clrt {i : Nat} {x : RV} {h : Heap} : SO.clear i (.rt x h) = .rt x h := (Eq.refl _).trans (Eq.refl _)
theorem q_clnx {i : Nat} {r : Env} {h : Heap} : SO.clear i (.nx r h) = .nx (r.set i none) h := (Eq.refl _).trans (Eq.refl _)
theorem q_allA {o : SO} : allA (fun _ _ => o) = o := allA_eq fun _ _ => rfl
theorem q_errIs {a dx : Nat} {vs : List Val} {c : Str} {b : Bool} {h : Heap} : fErrIs a ⟨c, []⟩ (some b) h (.v (.err a dx vs)) = some (.v (.bool b)) := if_pos ⟨rfl, rfl⟩
theorem q_take0 {α : Type} : ([] : List α).take 1 = [] := (Eq.refl _).trans (Eq.refl _)
noncomputable def zkO (h : Heap) : Option (Bool × List Val × List Nat) → Option (Bool × List Val × List Nat) → EO (List Val × List Nat) := fun a b => match a, b with | some (_, xs, d1), some (_, ys, d2) => .ok (pairs xs ys, d1 ++ d2) h | _, _ => .no
noncomputable def zk2 (sq : Heap → RV → Option (Bool × List Val × List Nat)) (x : RV) : RV → Heap → EO (List Val × List Nat) := fun y h2 => zkO h2 (sq h2 x) (sq h2 y)
noncomputable def zk1 (sq : Heap → RV → Option (Bool × List Val × List Nat)) (b : E) (r : Env) : RV → Heap → EO (List Val × List Nat) := fun x h1 => (b r h1).bind (zk2 sq x)
theorem q_iZip {sq : Heap → RV → Option (Bool × List Val × List Nat)} {a b : E} {r : Env} {h : Heap} : iZip sq a b r h = (a r h).bind (zk1 sq b r) := by unfold iZip zk1 zk2 zkO; rfl
theorem q_zk1 {sq : Heap → RV → Option (Bool × List Val × List Nat)} {b : E} {r : Env} {x : RV} {h : Heap} : zk1 sq b r x h = (b r h).bind (zk2 sq x) := (Eq.refl _).trans (Eq.refl _)
theorem q_zk2 {sq : Heap → RV → Option (Bool × List Val × List Nat)} {x y : RV} {h : Heap} : zk2 sq x y h = zkO h (sq h x) (sq h y) := (Eq.refl _).trans (Eq.refl _)
theorem q_zkO {h : Heap} {t u : Bool} {xs ys : List Val} {d1 d2 : List Nat} : zkO h (some (t, xs, d1)) (some (u, ys, d2)) = .ok (pairs xs ys, d1 ++ d2) h := (Eq.refl _).trans (Eq.refl _)
noncomputable def sqO (n : Nat) : Option HObj → Option (Bool × List Val × List Nat) := fun o => match o with | some (.lst xs) => some (false, xs, [n]) | _ => none
theorem q_svObj {h : Heap} {n : Nat} : seqV h (.v (.obj n)) = sqO n h[n]? := by unfold seqV sqO; rfl
theorem q_seObj {h : Heap} {n : Nat} : seqE h (.v (.obj n)) = sqO n h[n]? := by unfold seqE seqV sqO; rfl
theorem q_sqO {n : Nat} {xs : List Val} : sqO n (some (.lst xs)) = some (false, xs, [n]) := (Eq.refl _).trans (Eq.refl _)
noncomputable def lkO  : Option HObj → Option (List Val) := fun o => match o with | some (.lst xs) => some xs | _ => none
theorem q_llObj {h : Heap} {n : Nat} : lookL h (.v (.obj n)) = lkO h[n]? := by unfold lookL lkO; rfl
theorem q_lkO1 {xs : List Val} : lkO (some (.lst xs)) = some xs := (Eq.refl _).trans (Eq.refl _)
noncomputable def tpO  : Option HObj → Option RV := fun o => match o with | some (.lst xs) => some (.v (.tup xs)) | _ => none
theorem q_tupObj {h : Heap} {n : Nat} : fTuple h (.v (.obj n)) = tpO h[n]? := by unfold fTuple look tpO; dsimp only; cases h[n]? with | none => rfl | some o => cases o <;> rfl
theorem q_tpO {xs : List Val} : tpO (some (.lst xs)) = some (.v (.tup xs)) := (Eq.refl _).trans (Eq.refl _)
noncomputable def lsO  : Option HObj → Option RV := fun o => match o with | some (.lst xs) => some (.own xs) | _ => none
theorem q_lstObj {h : Heap} {n : Nat} : fList h (.v (.obj n)) = lsO h[n]? := by unfold fList look lsO; dsimp only; cases h[n]? with | none => rfl | some o => cases o <;> rfl
theorem q_lsO {xs : List Val} : lsO (some (.lst xs)) = some (.own xs) := (Eq.refl _).trans (Eq.refl _)
end SM

/-! SMNat: working the machine on numbers that are not negative; equality of plain data; draws as functions. -/
namespace SM
open PySem (Str PyData)
section
variable {h : Heap} {a b n k i j : Nat} {xs ys : List Val}
theorem lit (n : Nat) : @OfNat.ofNat Int n _ = ((@OfNat.ofNat Nat n _ : Nat) : Int) := (Eq.refl _).trans (Eq.refl _)
/-- a constant, its numbers said as natural ones -/
def nv (x : Val) : Val := x
def nvs (xs : List Val) : List Val := xs
theorem q_C' {x : Val} {r : Env} : eC x r h = .ok (.v (nv x)) h := (Eq.refl _).trans (Eq.refl _)
theorem nv_i (n : Nat) : nv (.int (no_index (@OfNat.ofNat Int n _))) = .int ((@OfNat.ofNat Nat n _ : Nat) : Int) := (Eq.refl _).trans (Eq.refl _)
theorem nv_m (n : Nat) : nv (.int (-(no_index (@OfNat.ofNat Int n _)))) = .int (-((@OfNat.ofNat Nat n _ : Nat) : Int)) := (Eq.refl _).trans (Eq.refl _)
theorem nv_N : nv .none = .none := (Eq.refl _).trans (Eq.refl _)
theorem nv_b {c : Bool} : nv (.bool c) = .bool c := (Eq.refl _).trans (Eq.refl _)
theorem nv_s {x : Str} : nv (.str x) = .str x := (Eq.refl _).trans (Eq.refl _)
theorem nv_t : nv (.tup xs) = .tup (nvs xs) := (Eq.refl _).trans (Eq.refl _)
theorem nvs_n : nvs [] = [] := (Eq.refl _).trans (Eq.refl _)
theorem nvs_c {x : Val} : nvs (x :: xs) = nv x :: nvs xs := (Eq.refl _).trans (Eq.refl _)
theorem nn_add : fAdd h (.v (.int (a : Int))) (.v (.int (b : Int))) = some (.v (.int ((a + b : Nat) : Int))) := add_ii.trans (by rw [Int.natCast_add])
theorem nn_sub (c : b ≤ a) : fSub h (.v (.int (a : Int))) (.v (.int (b : Int))) = some (.v (.int ((a - b : Nat) : Int))) := sub_ii.trans (by rw [Int.ofNat_sub c])
theorem nn_augA : fI0 (fun i j => .int (i + j)) h (.v (.int (a : Int))) (.v (.int (b : Int))) = some (.v (.int ((a + b : Nat) : Int))) := by
  rw [Int.natCast_add]
  rfl
theorem nn_augS (c : b ≤ a) : fI0 (fun i j => .int (i - j)) h (.v (.int (a : Int))) (.v (.int (b : Int))) = some (.v (.int ((a - b : Nat) : Int))) := by
  rw [Int.ofNat_sub c]
  rfl
theorem lt200 (c : a < 2 ^ 200) : PySem.Builtin.Int.intBits (a : Int) ≤ 200 := intBits_nat (n := 199) c
theorem nn_mul (c1 : a < 2 ^ 200) (c2 : b < 2 ^ 200) : fMul h (.v (.int (a : Int))) (.v (.int (b : Int))) = some (.v (.int ((a * b : Nat) : Int))) := (mul_ii (by
  have := lt200 c1
  have := lt200 c2
  show (_ : Int) ≤ _
  omega)).trans (by rw [Int.natCast_mul])
theorem nn_mod (c : 0 < b) : fMod h (.v (.int (a : Int))) (.v (.int (b : Int))) = some (.v (.int ((a % b : Nat) : Int))) := (mod_ii (by omega)).trans (by rw [Int.natCast_emod])
theorem log_200 (c : b < 2 ^ 200) : b.log2 < 9000 := by
  by_cases h0 : b = 0
  · subst h0
    rw [Nat.log2_zero]
    omega
  · have := (Nat.log2_lt h0).mpr c
    omega
theorem nn_div (c : 0 < b) (c2 : b < 2 ^ 200) : fDiv h (.v (.int (a : Int))) (.v (.int (b : Int))) = some (.v (.int ((a / b : Nat) : Int))) := (div_ii (by omega) (by rw [Int.natAbs_natCast]; exact log_200 c2)).trans (by rw [Int.natCast_ediv])
theorem nn_shl (c1 : a < 2 ^ 200) (c2 : k ≤ 4096) : fShl h (.v (.int (a : Int))) (.v (.int (k : Int))) = some (.v (.int ((a * 2 ^ k : Nat) : Int))) := (shl_ii (Int.natCast_nonneg _) (by
  have := lt200 c1
  omega)).trans (by rw [Int.toNat_natCast, n_mul2])
theorem nn_shr : fShr h (.v (.int (a : Int))) (.v (.int (k : Int))) = some (.v (.int ((a / 2 ^ k : Nat) : Int))) := (shr_ii (Int.natCast_nonneg _)).trans (by rw [Int.toNat_natCast, n_div2])
theorem nn_and : fAnd h (.v (.int (a : Int))) (.v (.int (b : Int))) = some (.v (.int ((a &&& b : Nat) : Int))) := and_ii.trans (by rw [n_and])
theorem nn_or : fOr h (.v (.int (a : Int))) (.v (.int (b : Int))) = some (.v (.int ((a ||| b : Nat) : Int))) := or_ii.trans (by rw [n_or])
theorem nn_xor : fXor h (.v (.int (a : Int))) (.v (.int (b : Int))) = some (.v (.int ((a ^^^ b : Nat) : Int))) := xor_ii.trans (by rw [n_xor])
theorem nn_lt : fLt h (.v (.int (a : Int))) (.v (.int (b : Int))) = some (.v (.bool (decide (a < b)))) := lt_ii.trans (by rw [decide_eq_decide.mpr Int.ofNat_lt])
theorem nn_le : fLe h (.v (.int (a : Int))) (.v (.int (b : Int))) = some (.v (.bool (decide (a ≤ b)))) := le_ii.trans (by rw [decide_eq_decide.mpr Int.ofNat_le])
theorem nn_gt : fGt h (.v (.int (a : Int))) (.v (.int (b : Int))) = some (.v (.bool (decide (b < a)))) := gt_ii.trans (by rw [decide_eq_decide.mpr Int.ofNat_lt])
theorem nn_ge : fGe h (.v (.int (a : Int))) (.v (.int (b : Int))) = some (.v (.bool (decide (b ≤ a)))) := ge_ii.trans (by rw [decide_eq_decide.mpr Int.ofNat_le])
theorem nn_max : fMax h (.v (.int (a : Int))) (.v (.int (b : Int))) = some (.v (.int ((max a b : Nat) : Int))) := max_ii.trans (by
  congr 3
  split <;> omega)
theorem nn_min : fMin h (.v (.int (a : Int))) (.v (.int (b : Int))) = some (.v (.int ((min a b : Nat) : Int))) := min_ii.trans (by
  congr 3
  split <;> omega)
theorem nn_abs : fAbs h (.v (.int (a : Int))) = some (.v (.int (a : Int))) := abs_i.trans (by rw [if_neg (by omega)])
theorem nn_gt' {x y : Int} : fGt h (.v (.int x)) (.v (.int y)) = some (.v (.bool (decide (y < x)))) := gt_ii
theorem and_mask (a k : Nat) : a &&& (2 ^ k - 1) = a % 2 ^ k := Nat.and_two_pow_sub_one_eq_mod a k
theorem and_255 : a &&& 255 = a % 256 := Nat.and_two_pow_sub_one_eq_mod a 8
theorem and_32 : a &&& 4294967295 = a % 4294967296 := Nat.and_two_pow_sub_one_eq_mod a 32
theorem and_64 : a &&& 18446744073709551615 = a % 18446744073709551616 := Nat.and_two_pow_sub_one_eq_mod a 64
theorem q_wipN {r : Env} : wipeE r [] = r := (Eq.refl _).trans (Eq.refl _)
theorem q_wipC {r : Env} {v : Nat} {vs : List Nat} : wipeE r (v :: vs) = (wipeE r vs).set v none := (Eq.refl _).trans (Eq.refl _)
theorem fin_ex {h : Heap} {e : Exn} {r : Env} : fin h (.ex e r h) = .ex e h := by
  unfold fin
  dsimp only
  split
  · rw [List.take_length]
  · rfl
theorem in_n {h : Heap} {k : Nat} {cs : List Nat} : fIn true h (.v (.int (k : Int))) (.v (.tup (vNats cs))) = some (.v (.bool (!decide (k ∈ cs)))) := by
  have h1 : (vNats cs).all flat = true := by
    rw [List.all_eq_true]
    intro x hx
    obtain ⟨i, _, rfl⟩ := List.mem_map.mp hx
    rfl
  have h2 : ((vNats cs).any fun z => eqF z (.int (k : Int))) = decide (k ∈ cs) := by
    induction cs with
    | nil => rfl
    | cons c cs ih =>
      show (eqF (.int (c : Int)) (.int (k : Int)) || (vNats cs).any fun z => eqF z (.int (k : Int))) = _
      rw [ih (by
        rw [List.all_eq_true]
        intro x hx
        obtain ⟨i, _, rfl⟩ := List.mem_map.mp hx
        rfl)]
      show ((c : Int) == (k : Int) || decide (k ∈ cs)) = decide (k ∈ c :: cs)
      by_cases e : c = k
      · subst e; simp
      · rw [show ((c : Int) == (k : Int)) = false from beq_eq_false_iff_ne.mpr (by omega), Bool.false_or]
        exact decide_eq_decide.mpr ⟨fun z => List.mem_cons_of_mem _ z, fun z => (List.mem_cons.mp z).resolve_left fun q => e q.symm⟩
  show (if flat (.int (k : Int)) = true ∧ (vNats cs).all flat = true then some (RV.v (.bool (if true then !(vNats cs).any fun z => eqF z (.int (k : Int)) else (vNats cs).any fun z => eqF z (.int (k : Int))))) else none) = _
  rw [if_pos ⟨rfl, h1⟩, h2]
  rfl
theorem set_last {h : Heap} {o o' : HObj} : (h ++ [o]).set h.length o' = h ++ [o'] := by
  rw [List.set_append_right _ _ (Nat.le_refl _), Nat.sub_self]
  rfl
theorem get_last {h : Heap} {o : HObj} : (h ++ [o])[h.length]? = some o := by
  rw [List.getElem?_append_right (Nat.le_refl _), Nat.sub_self]
  rfl
/-! ### tests -/
theorem dec_t {p : Prop} [Decidable p] (hp : p) : decide p = true := decide_eq_true hp
theorem dec_f {p : Prop} [Decidable p] (hp : ¬ p) : decide p = false := decide_eq_false hp
/-! ### places -/
theorem at_n {α : Type} {xs : List α} {i : Nat} : L2.atI xs (i : Int) = xs[i]? := by
  unfold L2.atI L2.ixN
  rw [if_pos (Int.natCast_nonneg i)]
  by_cases h : i < xs.length
  · rw [if_pos (by omega)]
    rfl
  · rw [if_neg (by omega), List.getElem?_eq_none (by omega)]
    rfl
theorem at_neg {α : Type} {xs : List α} {i : Nat} (h0 : 0 < i) (h1 : i ≤ xs.length) : L2.atI xs (-(i : Int)) = xs[xs.length - i]? := by
  unfold L2.atI L2.ixN
  rw [if_neg (by omega), if_pos (by omega)]
  show xs[(-(i : Int) + (xs.length : Int)).toNat]? = _
  congr 1
  omega
theorem nat_get {ns : List Nat} (c : i < ns.length) : (vNats ns)[i]? = some (.int (ns.getD i 0 : Nat)) := by
  rw [nats_get c, List.getD_eq_getElem?_getD, List.getElem?_eq_getElem c]
  rfl
/-- a heap's list, by its place -/
noncomputable def ixO (i : Int) : Option HObj → Option RV := fun o => match o with
  | some (.lst xs) => (L2.atI xs i).map .v
  | _ => none
theorem ix_o {i : Int} : fIx h (.v (.obj n)) (.v (.int i)) = ixO i h[n]? := by
  show (match look h (.v (.obj n)) with
      | some (_, xs) => (L2.atI xs i).map RV.v
      | none => none) = _
  unfold look ixO
  dsimp only
  cases h[n]? with
  | none => rfl
  | some o => cases o <;> rfl
theorem ixO_l {i : Int} : ixO i (some (.lst xs)) = (L2.atI xs i).map .v := (Eq.refl _).trans (Eq.refl _)
noncomputable def lenO : Option HObj → Option RV := fun o => match o with
  | some (.lst xs) => some (.v (.int xs.length))
  | _ => none
theorem len_o : fLen h (.v (.obj n)) = lenO h[n]? := by
  show (match look h (.v (.obj n)) with
      | some (_, xs) => some (RV.v (.int xs.length))
      | none => none) = _
  unfold look lenO
  dsimp only
  cases h[n]? with
  | none => rfl
  | some o => cases o <;> rfl
theorem lenO_l : lenO (some (.lst xs)) = some (.v (.int xs.length)) := (Eq.refl _).trans (Eq.refl _)
theorem irk_n (c : j < 2 ^ 62) : irk (.v (.int (j : Int))) h = .ok (vNats (List.range' 0 j), []) h := by
  rw [q_irk, if_pos ⟨by omega, by omega⟩, Int.toNat_natCast]
  exact congrArg (fun z => EO.ok (z, []) h) (upTo_map j 0)
theorem r2j_n (c1 : i < 2 ^ 62) (c : j < 2 ^ 62) : r2j (.v (.int (i : Int))) (.v (.int (j : Int))) h = .ok (vNats (List.range' i (j - i)), []) h := by
  rw [q_r2j, if_pos ⟨by omega, by omega, by omega, by omega⟩, show ((j : Int) - (i : Int)).toNat = j - i by omega]
  exact congrArg (fun z => EO.ok (z, []) h) (upTo_map (j - i) i)
theorem cut_nn : cutX xs (some (i : Int)) (some (j : Int)) = (xs.drop i).take (j - i) := by
  unfold cutX
  rw [HT.sIx_nat, HT.sIx_nat]
  by_cases hi : i ≤ xs.length
  · rw [Nat.min_eq_left hi]
    by_cases hj : j ≤ xs.length
    · rw [Nat.min_eq_left hj]
    · rw [Nat.min_eq_right (by omega), List.take_of_length_le (by rw [List.length_drop]; omega), List.take_of_length_le (by rw [List.length_drop]; omega)]
  · rw [Nat.min_eq_right (a := i) (by omega), List.drop_of_length_le (Nat.le_refl _), List.drop_of_length_le (by omega), List.take_nil, List.take_nil]
theorem cut_n_ : cutX xs (some (i : Int)) none = xs.drop i := by
  unfold cutX
  rw [HT.sIx_nat, HT.sIx_none]
  by_cases hi : i ≤ xs.length
  · rw [Nat.min_eq_left hi, List.take_of_length_le (by rw [List.length_drop]; omega)]
  · rw [Nat.min_eq_right (by omega), List.drop_of_length_le (Nat.le_refl _), List.drop_of_length_le (by omega), List.take_nil]
theorem cut__n : cutX xs none (some (j : Int)) = xs.take j := by
  unfold cutX
  rw [HT.sIx_nat, HT.sIx_none, List.drop_zero, Nat.sub_zero]
  by_cases hj : j ≤ xs.length
  · rw [Nat.min_eq_left hj]
  · rw [Nat.min_eq_right (by omega), List.take_of_length_le (Nat.le_refl _), List.take_of_length_le (by omega)]
theorem nats_drop {ns : List Nat} : (vNats ns).drop i = vNats (ns.drop i) := (List.map_drop ..).symm
theorem nats_take {ns : List Nat} : (vNats ns).take i = vNats (ns.take i) := (List.map_take ..).symm
theorem nats_app {ns ms : List Nat} : vNats ns ++ vNats ms = vNats (ns ++ ms) := (List.map_append ..).symm
theorem nats_app1 {ns : List Nat} : vNats ns ++ [.int (i : Int)] = vNats (ns ++ [i]) := by rw [show [Val.int (i : Int)] = vNats [i] from rfl, nats_app]
theorem nats_rep {ns : List Nat} : (List.replicate k (vNats ns)).flatten = vNats (List.replicate k ns).flatten := by
  show _ = List.map _ _
  rw [List.map_flatten, List.map_replicate]
theorem nats_nil : vNats [] = [] := (Eq.refl _).trans (Eq.refl _)
theorem nats_rev {ns : List Nat} : (vNats ns).reverse = vNats ns.reverse := (List.map_reverse ..).symm
theorem add_tt (c : xs.length + ys.length ≤ 16777216) : fAdd h (.v (.tup xs)) (.v (.tup ys)) = some (.v (.tup (xs ++ ys))) := (if_pos c).trans (Eq.refl _)
theorem add_oo (c : xs.length + ys.length ≤ 16777216) : fAdd h (.own xs) (.own ys) = some (.own (xs ++ ys)) := (if_pos c).trans (Eq.refl _)
theorem add_or (c : xs.length + ys.length ≤ 16777216) : fAdd h (.own xs) (.v (.ro ys)) = some (.own (xs ++ ys)) := (if_pos c).trans (Eq.refl _)
theorem add_ro' (c : xs.length + ys.length ≤ 16777216) : fAdd h (.v (.ro xs)) (.own ys) = some (.own (xs ++ ys)) := (if_pos c).trans (Eq.refl _)
theorem add_rr (c : xs.length + ys.length ≤ 16777216) : fAdd h (.v (.ro xs)) (.v (.ro ys)) = some (.own (xs ++ ys)) := (if_pos c).trans (Eq.refl _)
theorem add_ow (c : xs.length + ys.length ≤ 16777216) : fAdd h (.own xs) (.view ys) = some (.own (xs ++ ys)) := (if_pos c).trans (Eq.refl _)
theorem add_wo (c : xs.length + ys.length ≤ 16777216) : fAdd h (.view xs) (.own ys) = some (.own (xs ++ ys)) := (if_pos c).trans (Eq.refl _)
theorem add_ww (c : xs.length + ys.length ≤ 16777216) : fAdd h (.view xs) (.view ys) = some (.own (xs ++ ys)) := (if_pos c).trans (Eq.refl _)
theorem mul_o (c : k < 2 ^ 62) (c2 : xs.length * k ≤ 16777216) : fMul h (.own xs) (.v (.int (k : Int))) = some (.own (List.replicate k xs).flatten) := by
  simp only [fMul, lookL]
  rw [if_pos ⟨by omega, by omega, by rw [Int.toNat_natCast]; exact c2⟩, Int.toNat_natCast]
theorem is_int_i {x : Int} : fIs "int" h (.v (.int x)) = some (.v (.bool true)) := (Eq.refl _).trans (Eq.refl _)
theorem is_bool_i {x : Int} : fIs "bool" h (.v (.int x)) = some (.v (.bool false)) := (Eq.refl _).trans (Eq.refl _)
theorem is_tup_t : fIs "tuple" h (.v (.tup xs)) = some (.v (.bool true)) := (Eq.refl _).trans (Eq.refl _)
theorem is_tup_i {x : Int} : fIs "tuple" h (.v (.int x)) = some (.v (.bool false)) := (Eq.refl _).trans (Eq.refl _)
theorem is_tup_r : fIs "tuple" h (.v (.ro xs)) = some (.v (.bool false)) := (Eq.refl _).trans (Eq.refl _)
theorem is_tup_o : fIs "tuple" h (.own xs) = some (.v (.bool false)) := (Eq.refl _).trans (Eq.refl _)
theorem none_n : fNone false h (.v .none) = some (.v (.bool true)) := (Eq.refl _).trans (Eq.refl _)
theorem none_i {x : Int} : fNone false h (.v (.int x)) = some (.v (.bool false)) := (Eq.refl _).trans (Eq.refl _)
theorem none_t : fNone false h (.v (.tup xs)) = some (.v (.bool false)) := (Eq.refl _).trans (Eq.refl _)
theorem nnone_n : fNone true h (.v .none) = some (.v (.bool false)) := (Eq.refl _).trans (Eq.refl _)
theorem nnone_i {x : Int} : fNone true h (.v (.int x)) = some (.v (.bool true)) := (Eq.refl _).trans (Eq.refl _)
theorem nnone_t : fNone true h (.v (.tup xs)) = some (.v (.bool true)) := (Eq.refl _).trans (Eq.refl _)
theorem tr_n : truth h (.v (.int (a : Int))) = some (decide (a ≠ 0)) := q_trI.trans (by
  congr 1
  by_cases h : a = 0
  · subst h; rfl
  · rw [dec_t h, bne_iff_ne]; omega)
theorem ifp {α : Type} {c : Prop} [Decidable c] {x y : α} (hc : c) : (if c then x else y) = x := if_pos hc
theorem ifn {α : Type} {c : Prop} [Decidable c] {x y : α} (hc : ¬ c) : (if c then x else y) = y := if_neg hc
end
/-! ### equality of plain data -/
mutual
def okD : Nat → Val → Bool
  | _, .none => true
  | _, .bool _ => true
  | _, .int _ => true
  | _, .str x => PyData.strOk x
  | n + 1, .tup xs => okDs n xs
  | n + 1, .ro xs => okDs n xs
  | _, _ => false
def okDs : Nat → List Val → Bool
  | _, [] => true
  | n, x :: xs => okD n x && okDs n xs
end
mutual
def veq : Val → Val → Bool
  | .none, .none => true
  | .bool a, .bool b => a == b
  | .bool a, .int b => (if a then 1 else 0) == b
  | .int a, .bool b => a == (if b then 1 else 0)
  | .int a, .int b => a == b
  | .str a, .str b => a == b
  | .tup xs, .tup ys => veqs xs ys
  | .ro xs, .ro ys => veqs xs ys
  | _, _ => false
def veqs : List Val → List Val → Bool
  | [], [] => true
  | x :: xs, y :: ys => veq x y && veqs xs ys
  | _, _ => false
end
mutual
theorem okD_lay : ∀ (n : Nat) (x : Val), okD n x = true → ∃ d, toD x = some d ∧ d.canLay0 = true ∧ d.depth ≤ n
  | n, .none, _ => ⟨.none, by unfold toD; rfl, by unfold PyData.canLay0; rfl, by unfold PyData.depth; omega⟩
  | n, .bool b, _ => ⟨.bool b, by unfold toD; rfl, by unfold PyData.canLay0; rfl, by unfold PyData.depth; omega⟩
  | n, .int b, _ => ⟨.int b, by unfold toD; rfl, by unfold PyData.canLay0; rfl, by unfold PyData.depth; omega⟩
  | n, .str b, h => ⟨.str b, by unfold toD; rfl, by unfold PyData.canLay0; unfold okD at h; exact h, by unfold PyData.depth; omega⟩
  | n + 1, .tup xs, h => by
    unfold okD at h
    obtain ⟨ds, e, c, d⟩ := okDs_lay n xs h
    refine ⟨.tuple ds, by unfold toD; rw [e]; rfl, by unfold PyData.canLay0; exact c, by unfold PyData.depth; omega⟩
  | n + 1, .ro xs, h => by
    unfold okD at h
    obtain ⟨ds, e, c, d⟩ := okDs_lay n xs h
    refine ⟨.list ds, by unfold toD; rw [e]; rfl, by unfold PyData.canLay0; exact c, by unfold PyData.depth; omega⟩
  | 0, .tup _, h => by unfold okD at h; cases h
  | 0, .ro _, h => by unfold okD at h; cases h
  | _, .scr _, h => by unfold okD at h; cases h
  | _, .obj _, h => by unfold okD at h; cases h
  | _, .err _ _ _, h => by unfold okD at h; cases h
theorem okDs_lay : ∀ (n : Nat) (xs : List Val), okDs n xs = true → ∃ ds, toDs xs = some ds ∧ PyData.canLayAll0 ds = true ∧ PyData.depthAll ds ≤ n
  | n, [], _ => ⟨[], by unfold toDs; rfl, by unfold PyData.canLayAll0; rfl, by unfold PyData.depthAll; omega⟩
  | n, x :: xs, h => by
    unfold okDs at h
    rw [Bool.and_eq_true] at h
    obtain ⟨d, e1, c1, d1⟩ := okD_lay n x h.1
    obtain ⟨ds, e2, c2, d2⟩ := okDs_lay n xs h.2
    refine ⟨d :: ds, by unfold toDs; rw [e1, e2], by unfold PyData.canLayAll0; rw [c1, c2]; rfl, by unfold PyData.depthAll; omega⟩
end
mutual
theorem veq_ok : ∀ (x y : Val) (d e : PyData), toD x = some d → toD y = some e → PyData.eqv d e = veq x y
  | .none, y, d, e, h1, h2 => by
    unfold toD at h1; cases h1
    cases y <;> (unfold toD at h2; unfold veq PyData.eqv; first | (cases h2; rfl; done) | (cases h2; done) | skip)
    all_goals (obtain ⟨_, _, rfl⟩ := Option.map_eq_some_iff.mp h2; rfl)
  | .bool b, y, d, e, h1, h2 => by
    unfold toD at h1; cases h1
    cases y <;> (unfold toD at h2; unfold veq PyData.eqv; first | (cases h2; rfl; done) | (cases h2; done) | skip)
    all_goals (obtain ⟨_, _, rfl⟩ := Option.map_eq_some_iff.mp h2; rfl)
  | .int b, y, d, e, h1, h2 => by
    unfold toD at h1; cases h1
    cases y <;> (unfold toD at h2; unfold veq PyData.eqv; first | (cases h2; rfl; done) | (cases h2; done) | skip)
    all_goals (obtain ⟨_, _, rfl⟩ := Option.map_eq_some_iff.mp h2; rfl)
  | .str b, y, d, e, h1, h2 => by
    unfold toD at h1; cases h1
    cases y <;> (unfold toD at h2; unfold veq PyData.eqv; first | (cases h2; rfl; done) | (cases h2; done) | skip)
    all_goals (obtain ⟨_, _, rfl⟩ := Option.map_eq_some_iff.mp h2; rfl)
  | .tup xs, y, d, e, h1, h2 => by
    unfold toD at h1
    obtain ⟨ds, g1, rfl⟩ := Option.map_eq_some_iff.mp h1
    cases y with
    | tup ys =>
      unfold toD at h2
      obtain ⟨es, g2, rfl⟩ := Option.map_eq_some_iff.mp h2
      unfold veq PyData.eqv
      exact veqs_ok xs ys ds es g1 g2
    | ro ys =>
      unfold toD at h2
      obtain ⟨es, g2, rfl⟩ := Option.map_eq_some_iff.mp h2
      unfold veq PyData.eqv
      rfl
    | _ => unfold toD at h2; first | (cases h2; unfold veq PyData.eqv; rfl; done) | (cases h2; done)
  | .ro xs, y, d, e, h1, h2 => by
    unfold toD at h1
    obtain ⟨ds, g1, rfl⟩ := Option.map_eq_some_iff.mp h1
    cases y with
    | ro ys =>
      unfold toD at h2
      obtain ⟨es, g2, rfl⟩ := Option.map_eq_some_iff.mp h2
      unfold veq PyData.eqv
      exact veqs_ok xs ys ds es g1 g2
    | tup ys =>
      unfold toD at h2
      obtain ⟨es, g2, rfl⟩ := Option.map_eq_some_iff.mp h2
      unfold veq PyData.eqv
      rfl
    | _ => unfold toD at h2; first | (cases h2; unfold veq PyData.eqv; rfl; done) | (cases h2; done)
  | .scr _, _, _, _, h1, _ => by unfold toD at h1; cases h1
  | .obj _, _, _, _, h1, _ => by unfold toD at h1; cases h1
  | .err _ _ _, _, _, _, h1, _ => by unfold toD at h1; cases h1
theorem veqs_ok : ∀ (xs ys : List Val) (ds es : List PyData), toDs xs = some ds → toDs ys = some es → PyData.eqvAll ds es = veqs xs ys
  | [], [], ds, es, h1, h2 => by
    unfold toDs at h1 h2; cases h1; cases h2
    unfold veqs PyData.eqvAll; rfl
  | [], y :: ys, ds, es, h1, h2 => by
    unfold toDs at h1 h2; cases h1
    split at h2
    · cases h2; unfold veqs PyData.eqvAll; rfl
    · cases h2
  | x :: xs, [], ds, es, h1, h2 => by
    unfold toDs at h1 h2; cases h2
    split at h1
    · cases h1; unfold veqs PyData.eqvAll; rfl
    · cases h1
  | x :: xs, y :: ys, ds, es, h1, h2 => by
    unfold toDs at h1 h2
    split at h1
    · rename_i a1 a2
      cases h1
      split at h2
      · rename_i b1 b2
        cases h2
        unfold veqs PyData.eqvAll
        rw [veq_ok x y _ _ a1 b1, veqs_ok xs ys _ _ a2 b2]
      · cases h2
    · cases h1
end
/-- the comparison, where nothing is said of it -/
noncomputable def fEqX (neg : Bool) : F2 := fEq neg
theorem fEq_of {neg : Bool} {h : Heap} {x y : RV} {a b : Val} (hx : ∀ d, toD a = some d → toDR h x = some d) (hy : ∀ d, toD b = some d → toDR h y = some d) :
    fEq neg h x y = if okD 60 a = true ∧ okD 60 b = true then some (.v (.bool (if neg then !veq a b else veq a b))) else fEqX neg h x y := by
  by_cases c : okD 60 a = true ∧ okD 60 b = true
  · rw [if_pos c]
    obtain ⟨d, e1, c1, d1⟩ := okD_lay 60 a c.1
    obtain ⟨e, e2, c2, d2⟩ := okD_lay 60 b c.2
    show (match toDR h x, toDR h y with
      | some d, some e => if PySem.SeqAt.shaped d = true ∧ PySem.SeqAt.shaped e = true then some (RV.v (.bool (if neg then !PyData.eqv d e else PyData.eqv d e))) else none
      | _, _ => none) = _
    rw [hx d e1, hy e e2]
    dsimp only
    rw [if_pos ⟨by unfold PySem.SeqAt.shaped; rw [c1, decide_eq_true (by omega)]; rfl, by unfold PySem.SeqAt.shaped; rw [c2, decide_eq_true (by omega)]; rfl⟩, veq_ok a b d e e1 e2]
  · rw [if_neg c]
    rfl
section
variable {h : Heap} {a b : Val} {xs ys : List Val}
theorem toDR_v : ∀ d, toD a = some d → toDR h (.v a) = some d := fun d e => by
  cases a with
  | obj n => unfold toD at e; cases e
  | _ => exact e
theorem toDR_o : ∀ d, toD (.ro xs) = some d → toDR h (.own xs) = some d := fun d e => by unfold toD at e; exact e
theorem toDR_w : ∀ d, toD (.ro xs) = some d → toDR h (.view xs) = some d := fun d e => by unfold toD at e; exact e
theorem eqt (c : okD 60 a = true ∧ okD 60 b = true) {o : Option RV} : (if okD 60 a = true ∧ okD 60 b = true then some (.v (.bool (if (false : Bool) then !veq a b else veq a b))) else o) = some (.v (.bool (veq a b))) := if_pos c
theorem eq_vv : fEq false h (.v a) (.v b) = if okD 60 a = true ∧ okD 60 b = true then some (.v (.bool (veq a b))) else fEqX false h (.v a) (.v b) := fEq_of toDR_v toDR_v
theorem ne_vv : fEq true h (.v a) (.v b) = if okD 60 a = true ∧ okD 60 b = true then some (.v (.bool (!veq a b))) else fEqX true h (.v a) (.v b) := fEq_of toDR_v toDR_v
theorem eq_ov : fEq false h (.own xs) (.v b) = if okD 60 (.ro xs) = true ∧ okD 60 b = true then some (.v (.bool (veq (.ro xs) b))) else fEqX false h (.own xs) (.v b) := fEq_of toDR_o toDR_v
theorem ne_ov : fEq true h (.own xs) (.v b) = if okD 60 (.ro xs) = true ∧ okD 60 b = true then some (.v (.bool (!veq (.ro xs) b))) else fEqX true h (.own xs) (.v b) := fEq_of toDR_o toDR_v
theorem eq_vo : fEq false h (.v b) (.own xs) = if okD 60 b = true ∧ okD 60 (.ro xs) = true then some (.v (.bool (veq b (.ro xs)))) else fEqX false h (.v b) (.own xs) := fEq_of toDR_v toDR_o
theorem ne_vo : fEq true h (.v b) (.own xs) = if okD 60 b = true ∧ okD 60 (.ro xs) = true then some (.v (.bool (!veq b (.ro xs)))) else fEqX true h (.v b) (.own xs) := fEq_of toDR_v toDR_o
theorem eq_oo : fEq false h (.own xs) (.own ys) = if okD 60 (.ro xs) = true ∧ okD 60 (.ro ys) = true then some (.v (.bool (veq (.ro xs) (.ro ys)))) else fEqX false h (.own xs) (.own ys) := fEq_of toDR_o toDR_o
theorem ne_oo : fEq true h (.own xs) (.own ys) = if okD 60 (.ro xs) = true ∧ okD 60 (.ro ys) = true then some (.v (.bool (!veq (.ro xs) (.ro ys)))) else fEqX true h (.own xs) (.own ys) := fEq_of toDR_o toDR_o
theorem eq_wo : fEq false h (.view xs) (.own ys) = if okD 60 (.ro xs) = true ∧ okD 60 (.ro ys) = true then some (.v (.bool (veq (.ro xs) (.ro ys)))) else fEqX false h (.view xs) (.own ys) := fEq_of toDR_w toDR_o
theorem eq_ow : fEq false h (.own xs) (.view ys) = if okD 60 (.ro xs) = true ∧ okD 60 (.ro ys) = true then some (.v (.bool (veq (.ro xs) (.ro ys)))) else fEqX false h (.own xs) (.view ys) := fEq_of toDR_o toDR_w
theorem eq_wv : fEq false h (.view xs) (.v b) = if okD 60 (.ro xs) = true ∧ okD 60 b = true then some (.v (.bool (veq (.ro xs) b))) else fEqX false h (.view xs) (.v b) := fEq_of toDR_w toDR_v
variable {n : Nat} {i j : Int} {x y : Str} {k l : Nat} {c d : Bool} {z u : Val}
theorem okD_n : okD n .none = true := by unfold okD; rfl
theorem okD_b : okD n (.bool c) = true := by unfold okD; rfl
theorem okD_i : okD n (.int i) = true := by unfold okD; rfl
theorem okD_s : okD n (.str x) = PyData.strOk x := by unfold okD; rfl
theorem okD_t : okD (n + 1) (.tup xs) = okDs n xs := by unfold okD; rfl
theorem okD_r : okD (n + 1) (.ro xs) = okDs n xs := by unfold okD; rfl
theorem okDs_n : okDs n [] = true := by unfold okDs; rfl
theorem okDs_c : okDs n (z :: xs) = (okD n z && okDs n xs) := by conv => lhs; unfold okDs
theorem okDs_nats : ∀ {ns : List Nat}, okDs n (vNats ns) = true
  | [] => okDs_n
  | m :: ms => by
    show okDs n (.int (m : Int) :: vNats ms) = true
    rw [okDs_c, okDs_nats, okD_i]
    rfl
theorem veq_nn : veq (.int (k : Int)) (.int (l : Int)) = decide (k = l) := by
  unfold veq
  by_cases e : k = l
  · subst e; simp
  · rw [dec_f e, beq_eq_false_iff_ne]; omega
theorem veq_ii : veq (.int i) (.int j) = decide (i = j) := by
  unfold veq
  by_cases e : i = j
  · subst e; simp
  · rw [dec_f e, beq_eq_false_iff_ne]; exact e
theorem veq_ss : veq (.str x) (.str y) = decide (x = y) := by
  unfold veq
  by_cases e : x = y
  · subst e; simp
  · rw [dec_f e, beq_eq_false_iff_ne]; exact e
theorem veq_bb : veq (.bool c) (.bool d) = decide (c = d) := by unfold veq; cases c <;> cases d <;> rfl
theorem veq_N : veq .none .none = true := by unfold veq; rfl
theorem veq_Ni : veq .none (.int i) = false := by unfold veq; rfl
theorem veq_iN : veq (.int i) .none = false := by unfold veq; rfl
theorem veq_tt : veq (.tup xs) (.tup ys) = veqs xs ys := by unfold veq; rfl
theorem veq_rr : veq (.ro xs) (.ro ys) = veqs xs ys := by unfold veq; rfl
theorem veqs_n : veqs [] [] = true := by unfold veqs; rfl
theorem veqs_c : veqs (z :: xs) (u :: ys) = (veq z u && veqs xs ys) := by conv => lhs; unfold veqs
theorem veqs_nc : veqs [] (u :: ys) = false := by unfold veqs; rfl
theorem veqs_cn : veqs (z :: xs) [] = false := by unfold veqs; rfl
theorem veqs_nats : ∀ {ns ms : List Nat}, veqs (vNats ns) (vNats ms) = decide (ns = ms)
  | [], [] => veqs_n.trans (by simp)
  | [], m :: ms => veqs_nc.trans (by simp)
  | m :: ms, [] => veqs_cn.trans (by simp)
  | a :: as, b :: bs => by
    show veqs (.int (a : Int) :: vNats as) (.int (b : Int) :: vNats bs) = _
    rw [veqs_c, veqs_nats, veq_nn]
    by_cases e1 : a = b <;> by_cases e2 : as = bs <;> simp [e1, e2]
mutual
theorem veq_self : ∀ (n : Nat) (a : Val), okD n a = true → veq a a = true
  | n, .none, _ => by unfold veq; rfl
  | n, .bool b, _ => by unfold veq; simp
  | n, .int b, _ => by unfold veq; simp
  | n, .str b, _ => by unfold veq; simp
  | n + 1, .tup xs, h => by unfold okD at h; unfold veq; exact veqs_self n xs h
  | n + 1, .ro xs, h => by unfold okD at h; unfold veq; exact veqs_self n xs h
  | 0, .tup _, h => by unfold okD at h; cases h
  | 0, .ro _, h => by unfold okD at h; cases h
  | _, .scr _, h => by unfold okD at h; cases h
  | _, .obj _, h => by unfold okD at h; cases h
  | _, .err _ _ _, h => by unfold okD at h; cases h
theorem veqs_self : ∀ (n : Nat) (xs : List Val), okDs n xs = true → veqs xs xs = true
  | n, [], _ => by unfold veqs; rfl
  | n, x :: xs, h => by
    unfold okDs at h
    rw [Bool.and_eq_true] at h
    unfold veqs
    rw [veq_self n x h.1, veqs_self n xs h.2]
    rfl
end
end
end SM

/-! SMDr: the draws of the laws as functions. -/
namespace SM
structure St where
  ns : List Int
  a : Nat
  b : Nat
  s : Nat
  hs : s ≤ 2147483629
def St.enc (t : St) : HObj := .lst [.ro (vInts t.ns), .int (t.a : Int), .int (t.b : Int), .int (t.s : Int)]
theorem St.seed_le (s : Nat) : (s * 48271 + 69621) % 2147483629 ≤ 2147483629 := by omega
def St.cell (t : St) : Nat := (t.ns.getD t.b 0).natAbs
/-- what is drawn, the state behind it -/
def dV (t : St) (m : Nat) : Nat := if t.a = 0 then if t.ns.length ≤ t.b then (t.s * 48271 + 69621) % 2147483629 / 13 % m else t.cell % m else t.a % m
def dS (t : St) (m : Nat) : St := if t.a = 0 then if t.ns.length ≤ t.b then ⟨t.ns, 0, t.b, (t.s * 48271 + 69621) % 2147483629, St.seed_le _⟩ else ⟨t.ns, t.cell / m, t.b + 1, t.s, t.hs⟩ else ⟨t.ns, t.a / m, t.b, t.s, t.hs⟩
theorem dV_lt {t : St} {m : Nat} (h : 0 < m) : dV t m < m := by
  unfold dV
  split
  · split <;> exact Nat.mod_lt _ h
  · exact Nat.mod_lt _ h
theorem ints_len {ns : List Int} : (vInts ns).length = ns.length := List.length_map _
noncomputable def bDrawB : S := sCons (sIf (tAnd (tB (e2 (fEq false) (e2 fIx (eVar 0) (eC (.int 1))) (eC (.int 0)))) (tB (e2 fGe (e2 fIx (eVar 0) (eC (.int 2))) (e1 fLen (e2 fIx (eVar 0) (eC (.int 0))))))) (sCons (sSetHp (eVar 0) (eC (.int 3)) (e2 fMod (e1 fInt (e2 fAdd (e2 fMul (e2 fIx (eVar 0) (eC (.int 3))) (eC (.int 48271))) (eC (.int 69621)))) (eC (.int 2147483629)))) (sRet (e2 fMod (e1 fInt (e2 fDiv (e2 fIx (eVar 0) (eC (.int 3))) (eC (.int 13)))) (eVar 1)))) (sNil)) (sCons (sIf (tB (e2 (fEq false) (e2 fIx (eVar 0) (eC (.int 1))) (eC (.int 0)))) (sCons (sSetHp (eVar 0) (eC (.int 1)) (e1 fAbs (e2 fIx (e2 fIx (eVar 0) (eC (.int 0))) (e2 fIx (eVar 0) (eC (.int 2)))))) (sSetHp (eVar 0) (eC (.int 2)) (e2 fAdd (e2 fIx (eVar 0) (eC (.int 2))) (eC (.int 1))))) (sNil)) (sCons (sSet 2 (e2 fMod (e1 fInt (e2 fIx (eVar 0) (eC (.int 1)))) (eVar 1))) (sCons (sSetHp (eVar 0) (eC (.int 1)) (e2 fDiv (e2 fIx (eVar 0) (eC (.int 1))) (eVar 1))) (sRet (eVar 2)))))
noncomputable def fDrawB : Fn := mkFn 3 bDrawB
theorem abs_c {h : Heap} {i : Int} : fAbs h (.v (.int i)) = some (.v (.int (i.natAbs : Int))) := abs_i.trans (by
  congr 3
  split <;> omega)
theorem int_get {ns : List Int} {i : Nat} (c : i < ns.length) : (vInts ns)[i]? = some (.int (ns.getD i 0)) := by
  rw [List.getElem?_map, List.getElem?_eq_getElem c, List.getD_eq_getElem?_getD, List.getElem?_eq_getElem c]
  rfl
theorem dr_okA (t : St) {m : Nat} (hm : 0 < m) (hl : m < 2 ^ 200) (hs : Heap) : fDraw [.v (.obj 0), .v (.int (m : Int))] (t.enc :: hs) = .ok (.v (.int (dV t m : Nat))) ((dS t m).enc :: hs) := by
  obtain ⟨ns, a, b, s, ss⟩ := t
  unfold fDraw
  rw [mkFn_eq]
  unfold bDraw dV dS St.enc St.cell
  dsimp only
  by_cases ha : a = 0
  · subst ha
    by_cases hb : ns.length ≤ b
    · simp (disch := (first | assumption | omega | (simp only [List.length_cons, List.length_append, List.length_set, List.length_nil, List.length_take, List.length_drop, List.length_reverse, List.length_replicate, List.length_range', nats_len] <;> omega) | fail)) only [q_Var, q_evv, q_evo, q_evw, q_e1, q_e1k, q_e2, q_e2k, q_e2j, q_aNil, q_aCons, q_ack, q_acj, q_argv, q_argo, q_argw, q_keeps, q_keepsN, q_kpc, q_keepv, q_keepo, q_Tup, q_etk, q_etj, q_Lst, q_elk, q_elj, q_Call, q_If, q_ift, q_iff, q_tB, q_tbk, q_tTru, q_ttk, q_tAnd, q_takt, q_takf, q_tOr, q_tokt, q_tokf, q_tNot, q_tnk, q_tYes, q_And, q_ndk, q_ndt, q_ndf, q_Or, q_ork, q_ort, q_orf, q_Not, q_ntk, q_ntj, q_trN, q_trB, q_trT, q_trR, q_trO, q_trW, q_Chain, q_chk, q_chj, q_chit, q_chif, q_sNil, q_sPass, q_sCons, q_sSet, q_ssv, q_sso, q_sOwn, q_sok, q_sHeap, q_shk, q_sFrz, q_sfj, q_sExpr, q_sxk, q_sRet, q_srv, q_sro, q_sRetOwn, q_roj, q_sRetN, q_sBreak, q_sCont, q_sIf, q_sift, q_siff, q_sApp, q_sapj, q_sapv, q_sapo, q_sExt, q_sexj, q_sexk, q_sexm, q_llo, q_llw, q_llr, q_sSetIx, q_sixv, q_sixo, q_sixj, q_sixl, q_sixm, q_sSetHp, q_hpv, q_hpo, q_hpj, q_hpl, q_hpm, q_hpn, q_sAugHp, q_agk, q_agj, q_agl, q_agm, q_agn, q_ago, q_agp, q_sUnp, q_unk, q_setc, q_setn, q_sPar2, q_p2v, q_p2o, q_p2jv, q_p2jo, q_sAug, q_auj, q_aul, q_aumv, q_aumo, q_sWhile, q_wht, q_whf, q_frk, q_forN, q_forC, q_flk, q_putN, q_putT, q_iok, q_ioj, q_svT, q_svR, q_svS, q_svO, q_seT, q_seR, q_seS, q_seO, q_seW, q_iView, q_ivw, q_ivv, q_iRng1, q_Sl, q_slk1, q_slk2, q_slk3, q_ePN, q_ePS, q_epk, q_cutT, q_cutR, q_cutS, q_cutO, q_cutW, q_SlSt, q_stk1, q_stk2, q_stk3, q_revO, q_revR, q_revW, q_LR, q_lrk, q_lrj, q_iRng2, q_r2k, q_iRng3, q_r3k, q_r3j, q_r3i, q_sUnpL, q_ulk, q_ulj, q_lkO, q_lkR, q_lkW, q_lkT, q_sExtA, q_xaj, q_xak, q_xam, q_laO, q_laW, q_laR, q_laT, q_LR3, q_l3k, q_l3j, q_l3i, q_sSetSl, q_ssk2, q_ssj, q_ssl, q_ssm, q_ssn, opt_some, opt_none, EO.bind_ok, EO.bind_ex, EO.then_ok, EO.then_ex, SO.seq_nx, SO.seq_rt, SO.seq_bk, SO.seq_ct, SO.seq_ex, SO.turn_nx, SO.turn_ct, SO.turn_bk, SO.turn_rt, SO.turn_ex, neg_i, int_i, len_tup, len_ro, len_own, len_view, list_tup, list_ro, list_scr, list_own, list_view, tuple_tup, tuple_ro, tuple_own, tuple_view, ix_tup, ix_ro, ix_own, ix_view, Option.map_some, line, List.getElem?_cons_zero, List.getElem?_cons_succ, List.getElem?_nil, List.set_cons_zero, List.set_cons_succ, List.set_nil, List.length_cons, List.length_nil, List.map_cons, List.map_nil, List.cons_append, List.nil_append, List.replicate, Bool.not_true, Bool.not_false, if_true, if_false, Bool.false_eq_true, Nat.reduceAdd, Nat.reduceSub, q_fFld, q_sFldSet, q_fskv, q_fsko, q_fsj, q_sFldHp, q_fhk, q_sFldAug, q_fak, q_faj, q_fal, q_famv, q_famo, q_fnk, q_eMeth, q_methK, q_eProp, q_propK, q_noEx, q_eMake, q_mkj, q_makeK, q_eMakeKw, q_mwk, q_mwj, q_eCallK, q_ckk, q_ckj, q_sAppHp, q_appHk, q_apO1, q_appHjv, q_appHjo, q_apO2, q_sRaise, q_sTryAs, q_tanx, q_tart, q_taex, q_taot, q_taof, q_tah, q_sTry, q_ttnx, q_ttrt, q_ttex, q_ttot, q_ttof, q_noErt, q_noEnx, q_clrt, q_clnx, q_allA, q_errIs, q_take0, q_iZip, q_zk1, q_zk2, q_zkO, q_svObj, q_seObj, q_sqO, q_llObj, q_lkO1, q_tupObj, q_tpO, q_lstObj, q_lsO, q_C', nv_i, nv_m, nv_N, nv_b, nv_s, nv_t, nvs_n, nvs_c, nn_add, nn_sub, nn_mul, nn_mod, nn_div, nn_shl, nn_shr, nn_and, nn_or, nn_xor, nn_lt, nn_le, nn_gt, nn_ge, nn_max, nn_min, nn_abs, at_n, at_neg, nat_get, ix_o, ixO_l, len_o, lenO_l, irk_n, r2j_n, cut_nn, cut_n_, cut__n, nats_drop, nats_take, nats_app, nats_app1, nats_rep, nats_nil, nats_rev, nats_len, nats_set, add_tt, add_oo, add_or, add_ro', add_rr, add_ow, add_wo, add_ww, mul_o, is_int_i, is_bool_i, is_tup_t, is_tup_i, is_tup_r, is_tup_o, none_n, none_i, none_t, nnone_n, nnone_i, nnone_t, tr_n, ifp, ifn, dec_t, dec_f, eq_vv, ne_vv, eq_ov, ne_ov, eq_vo, ne_vo, eq_oo, ne_oo, eq_wo, eq_ow, eq_wv, okD_n, okD_b, okD_i, okD_s, okD_t, okD_r, okDs_n, okDs_c, okDs_nats, veq_nn, veq_ii, veq_ss, veq_bb, veq_N, veq_Ni, veq_iN, veq_tt, veq_rr, veqs_n, veqs_c, veqs_nc, veqs_cn, veqs_nats, ixN_nat, Bool.and_true, Bool.true_and, Bool.and_false, Bool.false_and, Bool.and_self, Option.bind_some, List.length_append, List.length_take, List.length_drop, List.length_reverse, List.length_replicate, List.getElem?_append, List.append_assoc, List.set_set, List.length_set, and_self, true_and, and_true, List.lookup_cons_self, nn_augA, nn_augS, fin_self, fin_selfN, fin_len, fin_lenN, fin_ex, set_last, get_last, Nat.sub_self, in_n, and_255, and_32, and_64, q_wipN, q_wipC, List.getElem?_set_self, ints_len]
    · simp (disch := (first | assumption | omega | (simp only [List.length_cons, List.length_append, List.length_set, List.length_nil, List.length_take, List.length_drop, List.length_reverse, List.length_replicate, List.length_range', nats_len] <;> omega) | fail)) only [q_Var, q_evv, q_evo, q_evw, q_e1, q_e1k, q_e2, q_e2k, q_e2j, q_aNil, q_aCons, q_ack, q_acj, q_argv, q_argo, q_argw, q_keeps, q_keepsN, q_kpc, q_keepv, q_keepo, q_Tup, q_etk, q_etj, q_Lst, q_elk, q_elj, q_Call, q_If, q_ift, q_iff, q_tB, q_tbk, q_tTru, q_ttk, q_tAnd, q_takt, q_takf, q_tOr, q_tokt, q_tokf, q_tNot, q_tnk, q_tYes, q_And, q_ndk, q_ndt, q_ndf, q_Or, q_ork, q_ort, q_orf, q_Not, q_ntk, q_ntj, q_trN, q_trB, q_trT, q_trR, q_trO, q_trW, q_Chain, q_chk, q_chj, q_chit, q_chif, q_sNil, q_sPass, q_sCons, q_sSet, q_ssv, q_sso, q_sOwn, q_sok, q_sHeap, q_shk, q_sFrz, q_sfj, q_sExpr, q_sxk, q_sRet, q_srv, q_sro, q_sRetOwn, q_roj, q_sRetN, q_sBreak, q_sCont, q_sIf, q_sift, q_siff, q_sApp, q_sapj, q_sapv, q_sapo, q_sExt, q_sexj, q_sexk, q_sexm, q_llo, q_llw, q_llr, q_sSetIx, q_sixv, q_sixo, q_sixj, q_sixl, q_sixm, q_sSetHp, q_hpv, q_hpo, q_hpj, q_hpl, q_hpm, q_hpn, q_sAugHp, q_agk, q_agj, q_agl, q_agm, q_agn, q_ago, q_agp, q_sUnp, q_unk, q_setc, q_setn, q_sPar2, q_p2v, q_p2o, q_p2jv, q_p2jo, q_sAug, q_auj, q_aul, q_aumv, q_aumo, q_sWhile, q_wht, q_whf, q_frk, q_forN, q_forC, q_flk, q_putN, q_putT, q_iok, q_ioj, q_svT, q_svR, q_svS, q_svO, q_seT, q_seR, q_seS, q_seO, q_seW, q_iView, q_ivw, q_ivv, q_iRng1, q_Sl, q_slk1, q_slk2, q_slk3, q_ePN, q_ePS, q_epk, q_cutT, q_cutR, q_cutS, q_cutO, q_cutW, q_SlSt, q_stk1, q_stk2, q_stk3, q_revO, q_revR, q_revW, q_LR, q_lrk, q_lrj, q_iRng2, q_r2k, q_iRng3, q_r3k, q_r3j, q_r3i, q_sUnpL, q_ulk, q_ulj, q_lkO, q_lkR, q_lkW, q_lkT, q_sExtA, q_xaj, q_xak, q_xam, q_laO, q_laW, q_laR, q_laT, q_LR3, q_l3k, q_l3j, q_l3i, q_sSetSl, q_ssk2, q_ssj, q_ssl, q_ssm, q_ssn, opt_some, opt_none, EO.bind_ok, EO.bind_ex, EO.then_ok, EO.then_ex, SO.seq_nx, SO.seq_rt, SO.seq_bk, SO.seq_ct, SO.seq_ex, SO.turn_nx, SO.turn_ct, SO.turn_bk, SO.turn_rt, SO.turn_ex, neg_i, int_i, len_tup, len_ro, len_own, len_view, list_tup, list_ro, list_scr, list_own, list_view, tuple_tup, tuple_ro, tuple_own, tuple_view, ix_tup, ix_ro, ix_own, ix_view, Option.map_some, line, List.getElem?_cons_zero, List.getElem?_cons_succ, List.getElem?_nil, List.set_cons_zero, List.set_cons_succ, List.set_nil, List.length_cons, List.length_nil, List.map_cons, List.map_nil, List.cons_append, List.nil_append, List.replicate, Bool.not_true, Bool.not_false, if_true, if_false, Bool.false_eq_true, Nat.reduceAdd, Nat.reduceSub, q_fFld, q_sFldSet, q_fskv, q_fsko, q_fsj, q_sFldHp, q_fhk, q_sFldAug, q_fak, q_faj, q_fal, q_famv, q_famo, q_fnk, q_eMeth, q_methK, q_eProp, q_propK, q_noEx, q_eMake, q_mkj, q_makeK, q_eMakeKw, q_mwk, q_mwj, q_eCallK, q_ckk, q_ckj, q_sAppHp, q_appHk, q_apO1, q_appHjv, q_appHjo, q_apO2, q_sRaise, q_sTryAs, q_tanx, q_tart, q_taex, q_taot, q_taof, q_tah, q_sTry, q_ttnx, q_ttrt, q_ttex, q_ttot, q_ttof, q_noErt, q_noEnx, q_clrt, q_clnx, q_allA, q_errIs, q_take0, q_iZip, q_zk1, q_zk2, q_zkO, q_svObj, q_seObj, q_sqO, q_llObj, q_lkO1, q_tupObj, q_tpO, q_lstObj, q_lsO, q_C', nv_i, nv_m, nv_N, nv_b, nv_s, nv_t, nvs_n, nvs_c, nn_add, nn_sub, nn_mul, nn_mod, nn_div, nn_shl, nn_shr, nn_and, nn_or, nn_xor, nn_lt, nn_le, nn_gt, nn_ge, nn_max, nn_min, nn_abs, at_n, at_neg, nat_get, ix_o, ixO_l, len_o, lenO_l, irk_n, r2j_n, cut_nn, cut_n_, cut__n, nats_drop, nats_take, nats_app, nats_app1, nats_rep, nats_nil, nats_rev, nats_len, nats_set, add_tt, add_oo, add_or, add_ro', add_rr, add_ow, add_wo, add_ww, mul_o, is_int_i, is_bool_i, is_tup_t, is_tup_i, is_tup_r, is_tup_o, none_n, none_i, none_t, nnone_n, nnone_i, nnone_t, tr_n, ifp, ifn, dec_t, dec_f, eq_vv, ne_vv, eq_ov, ne_ov, eq_vo, ne_vo, eq_oo, ne_oo, eq_wo, eq_ow, eq_wv, okD_n, okD_b, okD_i, okD_s, okD_t, okD_r, okDs_n, okDs_c, okDs_nats, veq_nn, veq_ii, veq_ss, veq_bb, veq_N, veq_Ni, veq_iN, veq_tt, veq_rr, veqs_n, veqs_c, veqs_nc, veqs_cn, veqs_nats, ixN_nat, Bool.and_true, Bool.true_and, Bool.and_false, Bool.false_and, Bool.and_self, Option.bind_some, List.length_append, List.length_take, List.length_drop, List.length_reverse, List.length_replicate, List.getElem?_append, List.append_assoc, List.set_set, List.length_set, and_self, true_and, and_true, List.lookup_cons_self, nn_augA, nn_augS, fin_self, fin_selfN, fin_len, fin_lenN, fin_ex, set_last, get_last, Nat.sub_self, in_n, and_255, and_32, and_64, q_wipN, q_wipC, List.getElem?_set_self, ints_len, int_get, abs_c]
  · simp (disch := (first | assumption | omega | (simp only [List.length_cons, List.length_append, List.length_set, List.length_nil, List.length_take, List.length_drop, List.length_reverse, List.length_replicate, List.length_range', nats_len] <;> omega) | fail)) only [q_Var, q_evv, q_evo, q_evw, q_e1, q_e1k, q_e2, q_e2k, q_e2j, q_aNil, q_aCons, q_ack, q_acj, q_argv, q_argo, q_argw, q_keeps, q_keepsN, q_kpc, q_keepv, q_keepo, q_Tup, q_etk, q_etj, q_Lst, q_elk, q_elj, q_Call, q_If, q_ift, q_iff, q_tB, q_tbk, q_tTru, q_ttk, q_tAnd, q_takt, q_takf, q_tOr, q_tokt, q_tokf, q_tNot, q_tnk, q_tYes, q_And, q_ndk, q_ndt, q_ndf, q_Or, q_ork, q_ort, q_orf, q_Not, q_ntk, q_ntj, q_trN, q_trB, q_trT, q_trR, q_trO, q_trW, q_Chain, q_chk, q_chj, q_chit, q_chif, q_sNil, q_sPass, q_sCons, q_sSet, q_ssv, q_sso, q_sOwn, q_sok, q_sHeap, q_shk, q_sFrz, q_sfj, q_sExpr, q_sxk, q_sRet, q_srv, q_sro, q_sRetOwn, q_roj, q_sRetN, q_sBreak, q_sCont, q_sIf, q_sift, q_siff, q_sApp, q_sapj, q_sapv, q_sapo, q_sExt, q_sexj, q_sexk, q_sexm, q_llo, q_llw, q_llr, q_sSetIx, q_sixv, q_sixo, q_sixj, q_sixl, q_sixm, q_sSetHp, q_hpv, q_hpo, q_hpj, q_hpl, q_hpm, q_hpn, q_sAugHp, q_agk, q_agj, q_agl, q_agm, q_agn, q_ago, q_agp, q_sUnp, q_unk, q_setc, q_setn, q_sPar2, q_p2v, q_p2o, q_p2jv, q_p2jo, q_sAug, q_auj, q_aul, q_aumv, q_aumo, q_sWhile, q_wht, q_whf, q_frk, q_forN, q_forC, q_flk, q_putN, q_putT, q_iok, q_ioj, q_svT, q_svR, q_svS, q_svO, q_seT, q_seR, q_seS, q_seO, q_seW, q_iView, q_ivw, q_ivv, q_iRng1, q_Sl, q_slk1, q_slk2, q_slk3, q_ePN, q_ePS, q_epk, q_cutT, q_cutR, q_cutS, q_cutO, q_cutW, q_SlSt, q_stk1, q_stk2, q_stk3, q_revO, q_revR, q_revW, q_LR, q_lrk, q_lrj, q_iRng2, q_r2k, q_iRng3, q_r3k, q_r3j, q_r3i, q_sUnpL, q_ulk, q_ulj, q_lkO, q_lkR, q_lkW, q_lkT, q_sExtA, q_xaj, q_xak, q_xam, q_laO, q_laW, q_laR, q_laT, q_LR3, q_l3k, q_l3j, q_l3i, q_sSetSl, q_ssk2, q_ssj, q_ssl, q_ssm, q_ssn, opt_some, opt_none, EO.bind_ok, EO.bind_ex, EO.then_ok, EO.then_ex, SO.seq_nx, SO.seq_rt, SO.seq_bk, SO.seq_ct, SO.seq_ex, SO.turn_nx, SO.turn_ct, SO.turn_bk, SO.turn_rt, SO.turn_ex, neg_i, int_i, len_tup, len_ro, len_own, len_view, list_tup, list_ro, list_scr, list_own, list_view, tuple_tup, tuple_ro, tuple_own, tuple_view, ix_tup, ix_ro, ix_own, ix_view, Option.map_some, line, List.getElem?_cons_zero, List.getElem?_cons_succ, List.getElem?_nil, List.set_cons_zero, List.set_cons_succ, List.set_nil, List.length_cons, List.length_nil, List.map_cons, List.map_nil, List.cons_append, List.nil_append, List.replicate, Bool.not_true, Bool.not_false, if_true, if_false, Bool.false_eq_true, Nat.reduceAdd, Nat.reduceSub, q_fFld, q_sFldSet, q_fskv, q_fsko, q_fsj, q_sFldHp, q_fhk, q_sFldAug, q_fak, q_faj, q_fal, q_famv, q_famo, q_fnk, q_eMeth, q_methK, q_eProp, q_propK, q_noEx, q_eMake, q_mkj, q_makeK, q_eMakeKw, q_mwk, q_mwj, q_eCallK, q_ckk, q_ckj, q_sAppHp, q_appHk, q_apO1, q_appHjv, q_appHjo, q_apO2, q_sRaise, q_sTryAs, q_tanx, q_tart, q_taex, q_taot, q_taof, q_tah, q_sTry, q_ttnx, q_ttrt, q_ttex, q_ttot, q_ttof, q_noErt, q_noEnx, q_clrt, q_clnx, q_allA, q_errIs, q_take0, q_iZip, q_zk1, q_zk2, q_zkO, q_svObj, q_seObj, q_sqO, q_llObj, q_lkO1, q_tupObj, q_tpO, q_lstObj, q_lsO, q_C', nv_i, nv_m, nv_N, nv_b, nv_s, nv_t, nvs_n, nvs_c, nn_add, nn_sub, nn_mul, nn_mod, nn_div, nn_shl, nn_shr, nn_and, nn_or, nn_xor, nn_lt, nn_le, nn_gt, nn_ge, nn_max, nn_min, nn_abs, at_n, at_neg, nat_get, ix_o, ixO_l, len_o, lenO_l, irk_n, r2j_n, cut_nn, cut_n_, cut__n, nats_drop, nats_take, nats_app, nats_app1, nats_rep, nats_nil, nats_rev, nats_len, nats_set, add_tt, add_oo, add_or, add_ro', add_rr, add_ow, add_wo, add_ww, mul_o, is_int_i, is_bool_i, is_tup_t, is_tup_i, is_tup_r, is_tup_o, none_n, none_i, none_t, nnone_n, nnone_i, nnone_t, tr_n, ifp, ifn, dec_t, dec_f, eq_vv, ne_vv, eq_ov, ne_ov, eq_vo, ne_vo, eq_oo, ne_oo, eq_wo, eq_ow, eq_wv, okD_n, okD_b, okD_i, okD_s, okD_t, okD_r, okDs_n, okDs_c, okDs_nats, veq_nn, veq_ii, veq_ss, veq_bb, veq_N, veq_Ni, veq_iN, veq_tt, veq_rr, veqs_n, veqs_c, veqs_nc, veqs_cn, veqs_nats, ixN_nat, Bool.and_true, Bool.true_and, Bool.and_false, Bool.false_and, Bool.and_self, Option.bind_some, List.length_append, List.length_take, List.length_drop, List.length_reverse, List.length_replicate, List.getElem?_append, List.append_assoc, List.set_set, List.length_set, and_self, true_and, and_true, List.lookup_cons_self, nn_augA, nn_augS, fin_self, fin_selfN, fin_len, fin_lenN, fin_ex, set_last, get_last, Nat.sub_self, in_n, and_255, and_32, and_64, q_wipN, q_wipC, List.getElem?_set_self, ints_len]
theorem dr_okB (t : St) {m : Nat} (hm : 0 < m) (hl : m < 2 ^ 200) (hs : Heap) : fDrawB [.v (.obj 0), .v (.int (m : Int))] (t.enc :: hs) = .ok (.v (.int (dV t m : Nat))) ((dS t m).enc :: hs) := by
  obtain ⟨ns, a, b, s, ss⟩ := t
  unfold fDrawB
  rw [mkFn_eq]
  unfold bDrawB dV dS St.enc St.cell
  dsimp only
  by_cases ha : a = 0
  · subst ha
    by_cases hb : ns.length ≤ b
    · simp (disch := (first | assumption | omega | (simp only [List.length_cons, List.length_append, List.length_set, List.length_nil, List.length_take, List.length_drop, List.length_reverse, List.length_replicate, List.length_range', nats_len] <;> omega) | fail)) only [q_Var, q_evv, q_evo, q_evw, q_e1, q_e1k, q_e2, q_e2k, q_e2j, q_aNil, q_aCons, q_ack, q_acj, q_argv, q_argo, q_argw, q_keeps, q_keepsN, q_kpc, q_keepv, q_keepo, q_Tup, q_etk, q_etj, q_Lst, q_elk, q_elj, q_Call, q_If, q_ift, q_iff, q_tB, q_tbk, q_tTru, q_ttk, q_tAnd, q_takt, q_takf, q_tOr, q_tokt, q_tokf, q_tNot, q_tnk, q_tYes, q_And, q_ndk, q_ndt, q_ndf, q_Or, q_ork, q_ort, q_orf, q_Not, q_ntk, q_ntj, q_trN, q_trB, q_trT, q_trR, q_trO, q_trW, q_Chain, q_chk, q_chj, q_chit, q_chif, q_sNil, q_sPass, q_sCons, q_sSet, q_ssv, q_sso, q_sOwn, q_sok, q_sHeap, q_shk, q_sFrz, q_sfj, q_sExpr, q_sxk, q_sRet, q_srv, q_sro, q_sRetOwn, q_roj, q_sRetN, q_sBreak, q_sCont, q_sIf, q_sift, q_siff, q_sApp, q_sapj, q_sapv, q_sapo, q_sExt, q_sexj, q_sexk, q_sexm, q_llo, q_llw, q_llr, q_sSetIx, q_sixv, q_sixo, q_sixj, q_sixl, q_sixm, q_sSetHp, q_hpv, q_hpo, q_hpj, q_hpl, q_hpm, q_hpn, q_sAugHp, q_agk, q_agj, q_agl, q_agm, q_agn, q_ago, q_agp, q_sUnp, q_unk, q_setc, q_setn, q_sPar2, q_p2v, q_p2o, q_p2jv, q_p2jo, q_sAug, q_auj, q_aul, q_aumv, q_aumo, q_sWhile, q_wht, q_whf, q_frk, q_forN, q_forC, q_flk, q_putN, q_putT, q_iok, q_ioj, q_svT, q_svR, q_svS, q_svO, q_seT, q_seR, q_seS, q_seO, q_seW, q_iView, q_ivw, q_ivv, q_iRng1, q_Sl, q_slk1, q_slk2, q_slk3, q_ePN, q_ePS, q_epk, q_cutT, q_cutR, q_cutS, q_cutO, q_cutW, q_SlSt, q_stk1, q_stk2, q_stk3, q_revO, q_revR, q_revW, q_LR, q_lrk, q_lrj, q_iRng2, q_r2k, q_iRng3, q_r3k, q_r3j, q_r3i, q_sUnpL, q_ulk, q_ulj, q_lkO, q_lkR, q_lkW, q_lkT, q_sExtA, q_xaj, q_xak, q_xam, q_laO, q_laW, q_laR, q_laT, q_LR3, q_l3k, q_l3j, q_l3i, q_sSetSl, q_ssk2, q_ssj, q_ssl, q_ssm, q_ssn, opt_some, opt_none, EO.bind_ok, EO.bind_ex, EO.then_ok, EO.then_ex, SO.seq_nx, SO.seq_rt, SO.seq_bk, SO.seq_ct, SO.seq_ex, SO.turn_nx, SO.turn_ct, SO.turn_bk, SO.turn_rt, SO.turn_ex, neg_i, int_i, len_tup, len_ro, len_own, len_view, list_tup, list_ro, list_scr, list_own, list_view, tuple_tup, tuple_ro, tuple_own, tuple_view, ix_tup, ix_ro, ix_own, ix_view, Option.map_some, line, List.getElem?_cons_zero, List.getElem?_cons_succ, List.getElem?_nil, List.set_cons_zero, List.set_cons_succ, List.set_nil, List.length_cons, List.length_nil, List.map_cons, List.map_nil, List.cons_append, List.nil_append, List.replicate, Bool.not_true, Bool.not_false, if_true, if_false, Bool.false_eq_true, Nat.reduceAdd, Nat.reduceSub, q_fFld, q_sFldSet, q_fskv, q_fsko, q_fsj, q_sFldHp, q_fhk, q_sFldAug, q_fak, q_faj, q_fal, q_famv, q_famo, q_fnk, q_eMeth, q_methK, q_eProp, q_propK, q_noEx, q_eMake, q_mkj, q_makeK, q_eMakeKw, q_mwk, q_mwj, q_eCallK, q_ckk, q_ckj, q_sAppHp, q_appHk, q_apO1, q_appHjv, q_appHjo, q_apO2, q_sRaise, q_sTryAs, q_tanx, q_tart, q_taex, q_taot, q_taof, q_tah, q_sTry, q_ttnx, q_ttrt, q_ttex, q_ttot, q_ttof, q_noErt, q_noEnx, q_clrt, q_clnx, q_allA, q_errIs, q_take0, q_iZip, q_zk1, q_zk2, q_zkO, q_svObj, q_seObj, q_sqO, q_llObj, q_lkO1, q_tupObj, q_tpO, q_lstObj, q_lsO, q_C', nv_i, nv_m, nv_N, nv_b, nv_s, nv_t, nvs_n, nvs_c, nn_add, nn_sub, nn_mul, nn_mod, nn_div, nn_shl, nn_shr, nn_and, nn_or, nn_xor, nn_lt, nn_le, nn_gt, nn_ge, nn_max, nn_min, nn_abs, at_n, at_neg, nat_get, ix_o, ixO_l, len_o, lenO_l, irk_n, r2j_n, cut_nn, cut_n_, cut__n, nats_drop, nats_take, nats_app, nats_app1, nats_rep, nats_nil, nats_rev, nats_len, nats_set, add_tt, add_oo, add_or, add_ro', add_rr, add_ow, add_wo, add_ww, mul_o, is_int_i, is_bool_i, is_tup_t, is_tup_i, is_tup_r, is_tup_o, none_n, none_i, none_t, nnone_n, nnone_i, nnone_t, tr_n, ifp, ifn, dec_t, dec_f, eq_vv, ne_vv, eq_ov, ne_ov, eq_vo, ne_vo, eq_oo, ne_oo, eq_wo, eq_ow, eq_wv, okD_n, okD_b, okD_i, okD_s, okD_t, okD_r, okDs_n, okDs_c, okDs_nats, veq_nn, veq_ii, veq_ss, veq_bb, veq_N, veq_Ni, veq_iN, veq_tt, veq_rr, veqs_n, veqs_c, veqs_nc, veqs_cn, veqs_nats, ixN_nat, Bool.and_true, Bool.true_and, Bool.and_false, Bool.false_and, Bool.and_self, Option.bind_some, List.length_append, List.length_take, List.length_drop, List.length_reverse, List.length_replicate, List.getElem?_append, List.append_assoc, List.set_set, List.length_set, and_self, true_and, and_true, List.lookup_cons_self, nn_augA, nn_augS, fin_self, fin_selfN, fin_len, fin_lenN, fin_ex, set_last, get_last, Nat.sub_self, in_n, and_255, and_32, and_64, q_wipN, q_wipC, List.getElem?_set_self, ints_len]
    · simp (disch := (first | assumption | omega | (simp only [List.length_cons, List.length_append, List.length_set, List.length_nil, List.length_take, List.length_drop, List.length_reverse, List.length_replicate, List.length_range', nats_len] <;> omega) | fail)) only [q_Var, q_evv, q_evo, q_evw, q_e1, q_e1k, q_e2, q_e2k, q_e2j, q_aNil, q_aCons, q_ack, q_acj, q_argv, q_argo, q_argw, q_keeps, q_keepsN, q_kpc, q_keepv, q_keepo, q_Tup, q_etk, q_etj, q_Lst, q_elk, q_elj, q_Call, q_If, q_ift, q_iff, q_tB, q_tbk, q_tTru, q_ttk, q_tAnd, q_takt, q_takf, q_tOr, q_tokt, q_tokf, q_tNot, q_tnk, q_tYes, q_And, q_ndk, q_ndt, q_ndf, q_Or, q_ork, q_ort, q_orf, q_Not, q_ntk, q_ntj, q_trN, q_trB, q_trT, q_trR, q_trO, q_trW, q_Chain, q_chk, q_chj, q_chit, q_chif, q_sNil, q_sPass, q_sCons, q_sSet, q_ssv, q_sso, q_sOwn, q_sok, q_sHeap, q_shk, q_sFrz, q_sfj, q_sExpr, q_sxk, q_sRet, q_srv, q_sro, q_sRetOwn, q_roj, q_sRetN, q_sBreak, q_sCont, q_sIf, q_sift, q_siff, q_sApp, q_sapj, q_sapv, q_sapo, q_sExt, q_sexj, q_sexk, q_sexm, q_llo, q_llw, q_llr, q_sSetIx, q_sixv, q_sixo, q_sixj, q_sixl, q_sixm, q_sSetHp, q_hpv, q_hpo, q_hpj, q_hpl, q_hpm, q_hpn, q_sAugHp, q_agk, q_agj, q_agl, q_agm, q_agn, q_ago, q_agp, q_sUnp, q_unk, q_setc, q_setn, q_sPar2, q_p2v, q_p2o, q_p2jv, q_p2jo, q_sAug, q_auj, q_aul, q_aumv, q_aumo, q_sWhile, q_wht, q_whf, q_frk, q_forN, q_forC, q_flk, q_putN, q_putT, q_iok, q_ioj, q_svT, q_svR, q_svS, q_svO, q_seT, q_seR, q_seS, q_seO, q_seW, q_iView, q_ivw, q_ivv, q_iRng1, q_Sl, q_slk1, q_slk2, q_slk3, q_ePN, q_ePS, q_epk, q_cutT, q_cutR, q_cutS, q_cutO, q_cutW, q_SlSt, q_stk1, q_stk2, q_stk3, q_revO, q_revR, q_revW, q_LR, q_lrk, q_lrj, q_iRng2, q_r2k, q_iRng3, q_r3k, q_r3j, q_r3i, q_sUnpL, q_ulk, q_ulj, q_lkO, q_lkR, q_lkW, q_lkT, q_sExtA, q_xaj, q_xak, q_xam, q_laO, q_laW, q_laR, q_laT, q_LR3, q_l3k, q_l3j, q_l3i, q_sSetSl, q_ssk2, q_ssj, q_ssl, q_ssm, q_ssn, opt_some, opt_none, EO.bind_ok, EO.bind_ex, EO.then_ok, EO.then_ex, SO.seq_nx, SO.seq_rt, SO.seq_bk, SO.seq_ct, SO.seq_ex, SO.turn_nx, SO.turn_ct, SO.turn_bk, SO.turn_rt, SO.turn_ex, neg_i, int_i, len_tup, len_ro, len_own, len_view, list_tup, list_ro, list_scr, list_own, list_view, tuple_tup, tuple_ro, tuple_own, tuple_view, ix_tup, ix_ro, ix_own, ix_view, Option.map_some, line, List.getElem?_cons_zero, List.getElem?_cons_succ, List.getElem?_nil, List.set_cons_zero, List.set_cons_succ, List.set_nil, List.length_cons, List.length_nil, List.map_cons, List.map_nil, List.cons_append, List.nil_append, List.replicate, Bool.not_true, Bool.not_false, if_true, if_false, Bool.false_eq_true, Nat.reduceAdd, Nat.reduceSub, q_fFld, q_sFldSet, q_fskv, q_fsko, q_fsj, q_sFldHp, q_fhk, q_sFldAug, q_fak, q_faj, q_fal, q_famv, q_famo, q_fnk, q_eMeth, q_methK, q_eProp, q_propK, q_noEx, q_eMake, q_mkj, q_makeK, q_eMakeKw, q_mwk, q_mwj, q_eCallK, q_ckk, q_ckj, q_sAppHp, q_appHk, q_apO1, q_appHjv, q_appHjo, q_apO2, q_sRaise, q_sTryAs, q_tanx, q_tart, q_taex, q_taot, q_taof, q_tah, q_sTry, q_ttnx, q_ttrt, q_ttex, q_ttot, q_ttof, q_noErt, q_noEnx, q_clrt, q_clnx, q_allA, q_errIs, q_take0, q_iZip, q_zk1, q_zk2, q_zkO, q_svObj, q_seObj, q_sqO, q_llObj, q_lkO1, q_tupObj, q_tpO, q_lstObj, q_lsO, q_C', nv_i, nv_m, nv_N, nv_b, nv_s, nv_t, nvs_n, nvs_c, nn_add, nn_sub, nn_mul, nn_mod, nn_div, nn_shl, nn_shr, nn_and, nn_or, nn_xor, nn_lt, nn_le, nn_gt, nn_ge, nn_max, nn_min, nn_abs, at_n, at_neg, nat_get, ix_o, ixO_l, len_o, lenO_l, irk_n, r2j_n, cut_nn, cut_n_, cut__n, nats_drop, nats_take, nats_app, nats_app1, nats_rep, nats_nil, nats_rev, nats_len, nats_set, add_tt, add_oo, add_or, add_ro', add_rr, add_ow, add_wo, add_ww, mul_o, is_int_i, is_bool_i, is_tup_t, is_tup_i, is_tup_r, is_tup_o, none_n, none_i, none_t, nnone_n, nnone_i, nnone_t, tr_n, ifp, ifn, dec_t, dec_f, eq_vv, ne_vv, eq_ov, ne_ov, eq_vo, ne_vo, eq_oo, ne_oo, eq_wo, eq_ow, eq_wv, okD_n, okD_b, okD_i, okD_s, okD_t, okD_r, okDs_n, okDs_c, okDs_nats, veq_nn, veq_ii, veq_ss, veq_bb, veq_N, veq_Ni, veq_iN, veq_tt, veq_rr, veqs_n, veqs_c, veqs_nc, veqs_cn, veqs_nats, ixN_nat, Bool.and_true, Bool.true_and, Bool.and_false, Bool.false_and, Bool.and_self, Option.bind_some, List.length_append, List.length_take, List.length_drop, List.length_reverse, List.length_replicate, List.getElem?_append, List.append_assoc, List.set_set, List.length_set, and_self, true_and, and_true, List.lookup_cons_self, nn_augA, nn_augS, fin_self, fin_selfN, fin_len, fin_lenN, fin_ex, set_last, get_last, Nat.sub_self, in_n, and_255, and_32, and_64, q_wipN, q_wipC, List.getElem?_set_self, ints_len, int_get, abs_c]
  · simp (disch := (first | assumption | omega | (simp only [List.length_cons, List.length_append, List.length_set, List.length_nil, List.length_take, List.length_drop, List.length_reverse, List.length_replicate, List.length_range', nats_len] <;> omega) | fail)) only [q_Var, q_evv, q_evo, q_evw, q_e1, q_e1k, q_e2, q_e2k, q_e2j, q_aNil, q_aCons, q_ack, q_acj, q_argv, q_argo, q_argw, q_keeps, q_keepsN, q_kpc, q_keepv, q_keepo, q_Tup, q_etk, q_etj, q_Lst, q_elk, q_elj, q_Call, q_If, q_ift, q_iff, q_tB, q_tbk, q_tTru, q_ttk, q_tAnd, q_takt, q_takf, q_tOr, q_tokt, q_tokf, q_tNot, q_tnk, q_tYes, q_And, q_ndk, q_ndt, q_ndf, q_Or, q_ork, q_ort, q_orf, q_Not, q_ntk, q_ntj, q_trN, q_trB, q_trT, q_trR, q_trO, q_trW, q_Chain, q_chk, q_chj, q_chit, q_chif, q_sNil, q_sPass, q_sCons, q_sSet, q_ssv, q_sso, q_sOwn, q_sok, q_sHeap, q_shk, q_sFrz, q_sfj, q_sExpr, q_sxk, q_sRet, q_srv, q_sro, q_sRetOwn, q_roj, q_sRetN, q_sBreak, q_sCont, q_sIf, q_sift, q_siff, q_sApp, q_sapj, q_sapv, q_sapo, q_sExt, q_sexj, q_sexk, q_sexm, q_llo, q_llw, q_llr, q_sSetIx, q_sixv, q_sixo, q_sixj, q_sixl, q_sixm, q_sSetHp, q_hpv, q_hpo, q_hpj, q_hpl, q_hpm, q_hpn, q_sAugHp, q_agk, q_agj, q_agl, q_agm, q_agn, q_ago, q_agp, q_sUnp, q_unk, q_setc, q_setn, q_sPar2, q_p2v, q_p2o, q_p2jv, q_p2jo, q_sAug, q_auj, q_aul, q_aumv, q_aumo, q_sWhile, q_wht, q_whf, q_frk, q_forN, q_forC, q_flk, q_putN, q_putT, q_iok, q_ioj, q_svT, q_svR, q_svS, q_svO, q_seT, q_seR, q_seS, q_seO, q_seW, q_iView, q_ivw, q_ivv, q_iRng1, q_Sl, q_slk1, q_slk2, q_slk3, q_ePN, q_ePS, q_epk, q_cutT, q_cutR, q_cutS, q_cutO, q_cutW, q_SlSt, q_stk1, q_stk2, q_stk3, q_revO, q_revR, q_revW, q_LR, q_lrk, q_lrj, q_iRng2, q_r2k, q_iRng3, q_r3k, q_r3j, q_r3i, q_sUnpL, q_ulk, q_ulj, q_lkO, q_lkR, q_lkW, q_lkT, q_sExtA, q_xaj, q_xak, q_xam, q_laO, q_laW, q_laR, q_laT, q_LR3, q_l3k, q_l3j, q_l3i, q_sSetSl, q_ssk2, q_ssj, q_ssl, q_ssm, q_ssn, opt_some, opt_none, EO.bind_ok, EO.bind_ex, EO.then_ok, EO.then_ex, SO.seq_nx, SO.seq_rt, SO.seq_bk, SO.seq_ct, SO.seq_ex, SO.turn_nx, SO.turn_ct, SO.turn_bk, SO.turn_rt, SO.turn_ex, neg_i, int_i, len_tup, len_ro, len_own, len_view, list_tup, list_ro, list_scr, list_own, list_view, tuple_tup, tuple_ro, tuple_own, tuple_view, ix_tup, ix_ro, ix_own, ix_view, Option.map_some, line, List.getElem?_cons_zero, List.getElem?_cons_succ, List.getElem?_nil, List.set_cons_zero, List.set_cons_succ, List.set_nil, List.length_cons, List.length_nil, List.map_cons, List.map_nil, List.cons_append, List.nil_append, List.replicate, Bool.not_true, Bool.not_false, if_true, if_false, Bool.false_eq_true, Nat.reduceAdd, Nat.reduceSub, q_fFld, q_sFldSet, q_fskv, q_fsko, q_fsj, q_sFldHp, q_fhk, q_sFldAug, q_fak, q_faj, q_fal, q_famv, q_famo, q_fnk, q_eMeth, q_methK, q_eProp, q_propK, q_noEx, q_eMake, q_mkj, q_makeK, q_eMakeKw, q_mwk, q_mwj, q_eCallK, q_ckk, q_ckj, q_sAppHp, q_appHk, q_apO1, q_appHjv, q_appHjo, q_apO2, q_sRaise, q_sTryAs, q_tanx, q_tart, q_taex, q_taot, q_taof, q_tah, q_sTry, q_ttnx, q_ttrt, q_ttex, q_ttot, q_ttof, q_noErt, q_noEnx, q_clrt, q_clnx, q_allA, q_errIs, q_take0, q_iZip, q_zk1, q_zk2, q_zkO, q_svObj, q_seObj, q_sqO, q_llObj, q_lkO1, q_tupObj, q_tpO, q_lstObj, q_lsO, q_C', nv_i, nv_m, nv_N, nv_b, nv_s, nv_t, nvs_n, nvs_c, nn_add, nn_sub, nn_mul, nn_mod, nn_div, nn_shl, nn_shr, nn_and, nn_or, nn_xor, nn_lt, nn_le, nn_gt, nn_ge, nn_max, nn_min, nn_abs, at_n, at_neg, nat_get, ix_o, ixO_l, len_o, lenO_l, irk_n, r2j_n, cut_nn, cut_n_, cut__n, nats_drop, nats_take, nats_app, nats_app1, nats_rep, nats_nil, nats_rev, nats_len, nats_set, add_tt, add_oo, add_or, add_ro', add_rr, add_ow, add_wo, add_ww, mul_o, is_int_i, is_bool_i, is_tup_t, is_tup_i, is_tup_r, is_tup_o, none_n, none_i, none_t, nnone_n, nnone_i, nnone_t, tr_n, ifp, ifn, dec_t, dec_f, eq_vv, ne_vv, eq_ov, ne_ov, eq_vo, ne_vo, eq_oo, ne_oo, eq_wo, eq_ow, eq_wv, okD_n, okD_b, okD_i, okD_s, okD_t, okD_r, okDs_n, okDs_c, okDs_nats, veq_nn, veq_ii, veq_ss, veq_bb, veq_N, veq_Ni, veq_iN, veq_tt, veq_rr, veqs_n, veqs_c, veqs_nc, veqs_cn, veqs_nats, ixN_nat, Bool.and_true, Bool.true_and, Bool.and_false, Bool.false_and, Bool.and_self, Option.bind_some, List.length_append, List.length_take, List.length_drop, List.length_reverse, List.length_replicate, List.getElem?_append, List.append_assoc, List.set_set, List.length_set, and_self, true_and, and_true, List.lookup_cons_self, nn_augA, nn_augS, fin_self, fin_selfN, fin_len, fin_lenN, fin_ex, set_last, get_last, Nat.sub_self, in_n, and_255, and_32, and_64, q_wipN, q_wipC, List.getElem?_set_self, ints_len]
end SM

/-! SMLib: loops and comprehensions over numbers. -/
namespace SM
open PySem (Str)
section
variable {α : Type} {s : Nat} {it : I} {b : S} {r : Env} {h h1 : Heap} {ns xs ys : List Nat} {own : List Nat} {e : E} {dep : List Nat} {g : Tg}
theorem nats_at_k {k : Nat} {v : Val} (hk : (vNats ns)[k]? = some v) : ∃ i, ns[k]? = some i ∧ v = .int (i : Int) := by
  rw [List.getElem?_map] at hk
  cases e : ns[k]? with
  | none => rw [e] at hk; cases hk
  | some i => rw [e] at hk; exact ⟨i, rfl, (Option.some.inj hk).symm⟩
theorem foldl_take {β : Type} {F : α → β → α} {a : α} {l : List β} {k : Nat} {x : β} (h : l[k]? = some x) : (l.take (k + 1)).foldl F a = F ((l.take k).foldl F a) x := by
  rw [List.take_add_one, h, List.foldl_append]
  rfl
/-- a loop over numbers: a state, a relation of it to slots and heap -/
theorem for_nat (F : α → Nat → α) (R : Nat → α → Env → Heap → Prop) (a0 : α) (hi : it r h = .ok (vNats ns, []) h1) (p : R 0 a0 r h1)
    (st : ∀ (k i : Nat) a r h', ns[k]? = some i → R k a r h' → ∃ r2 h2, b (r.set s (some (.v (.int (i : Int))))) h' = .nx r2 h2 ∧ R (k + 1) (F a i) r2 h2) :
    ∃ r2 h2, sFor (.nm s) it b r h = .nx r2 h2 ∧ R ns.length (ns.foldl F a0) r2 h2 := by
  obtain ⟨r2, h2, e, q⟩ := for_ok (g := .nm s) (b := b) (fun k r h' => R k ((ns.take k).foldl F a0) r h') hi p fun k v r h' hk q => by
    obtain ⟨i, hi, rfl⟩ := nats_at_k hk
    obtain ⟨r2, h2, e, q2⟩ := st k i _ r h' hi q
    exact ⟨_, rfl, r2, h2, .inl e, by rw [foldl_take hi]; exact q2⟩
  refine ⟨r2, h2, e, ?_⟩
  rw [nats_len, List.take_length] at q
  exact q
/-- .. over values -/
theorem for_val {vs : List Val} (F : α → Val → α) (R : Nat → α → Env → Heap → Prop) (a0 : α) (hi : it r h = .ok (vs, []) h1) (p : R 0 a0 r h1)
    (st : ∀ (k : Nat) v a r h', vs[k]? = some v → R k a r h' → ∃ r1, g.put v r = some r1 ∧ ∃ r2 h2, b r1 h' = .nx r2 h2 ∧ R (k + 1) (F a v) r2 h2) :
    ∃ r2 h2, sFor g it b r h = .nx r2 h2 ∧ R vs.length (vs.foldl F a0) r2 h2 := by
  obtain ⟨r2, h2, e, q⟩ := for_ok (g := g) (b := b) (fun k r h' => R k ((vs.take k).foldl F a0) r h') hi p fun k v r h' hk q => by
    obtain ⟨r1, e1, r2, h2, e, q2⟩ := st k v _ r h' hk q
    exact ⟨_, e1, r2, h2, .inl e, by rw [foldl_take hk]; exact q2⟩
  refine ⟨r2, h2, e, ?_⟩
  rw [List.take_length] at q
  exact q
/-- a loop that raises at its first bad item, if there is one -/
theorem forL_bad {vs : List Val} {e : Exn} (R : Env → Heap → Prop) (Rx : Env → Heap → Prop) (bad : Val → Prop) (st : ∀ v, v ∈ vs → ∀ r h, R r h → ∃ r1, g.put v r = some r1 ∧ ((¬ bad v ∧ ∃ r2 h2, b r1 h = .nx r2 h2 ∧ R r2 h2) ∨ (bad v ∧ ∃ r2 h2, b r1 h = .ex e r2 h2 ∧ Rx r2 h2))) (h0 : Heap) :
    ∀ r h, R r h → ((∀ v, v ∈ vs → ¬ bad v) → ∃ r2 h2, forL g b [] h0 vs r h = .nx r2 h2 ∧ R r2 h2) ∧ ((∃ v, v ∈ vs ∧ bad v) → ∃ r2 h2, forL g b [] h0 vs r h = .ex e r2 h2 ∧ Rx r2 h2) := by
  induction vs with
  | nil => exact fun r h p => ⟨fun _ => ⟨r, h, rfl, p⟩, fun ⟨v, hv, _⟩ => nomatch hv⟩
  | cons x xs ih =>
    intro r h p
    obtain ⟨r1, e1, q⟩ := st x List.mem_cons_self r h p
    have ih := ih fun v hv => st v (List.mem_cons_of_mem _ hv)
    have ef : forL g b [] h0 (x :: xs) r h = (b r1 h).turn (forL g b [] h0 xs) := by
      rw [q_forC, e1, q_flk]
    rcases q with ⟨nb, r2, h2, eb, p2⟩ | ⟨bd, r2, h2, eb, p2⟩
    · obtain ⟨i1, i2⟩ := ih r2 h2 p2
      rw [ef, eb, SO.turn_nx]
      refine ⟨fun al => i1 fun v hv => al v (List.mem_cons_of_mem _ hv), fun ⟨v, hv, bv⟩ => i2 ⟨v, (List.mem_cons.mp hv).resolve_left fun z => nb (z ▸ bv), bv⟩⟩
    · refine ⟨fun al => absurd bd (al x List.mem_cons_self), fun _ => ⟨r2, h2, ?_, p2⟩⟩
      rw [ef, eb, SO.turn_ex]
theorem for_bad {vs : List Val} {e : Exn} (R : Env → Heap → Prop) (Rx : Env → Heap → Prop) (bad : Val → Prop) (hi : it r h = .ok (vs, []) h1) (p : R r h1) (st : ∀ v, v ∈ vs → ∀ r h, R r h → ∃ r1, g.put v r = some r1 ∧ ((¬ bad v ∧ ∃ r2 h2, b r1 h = .nx r2 h2 ∧ R r2 h2) ∨ (bad v ∧ ∃ r2 h2, b r1 h = .ex e r2 h2 ∧ Rx r2 h2))) :
    ((∀ v, v ∈ vs → ¬ bad v) → ∃ r2 h2, sFor g it b r h = .nx r2 h2 ∧ R r2 h2) ∧ ((∃ v, v ∈ vs ∧ bad v) → ∃ r2 h2, sFor g it b r h = .ex e r2 h2 ∧ Rx r2 h2) := by
  have := forL_bad R Rx bad st h1 r h1 p
  rw [q_sFor, hi, EO.then_ok, q_frk]
  exact this
theorem lc_nat (F : Nat → Nat) (hi : it r h = .ok (vNats ns, dep) h1) (hz : ns.length ≤ 16777216) (st : ∀ i : Nat, i ∈ ns → e ((wipeE r own).set s (some (.v (.int (i : Int))))) h1 = .ok (.v (.int (F i : Nat))) h1) : eLc own (.nm s) it tYes e r h = .ok (.own (vNats (ns.map F))) h1 := by
  have := lc_map (own := own) (g := .nm s) (e := e) (fun v => match v with | .int i => .int (F i.toNat : Nat) | _ => .none) hi (by rw [nats_len]; exact hz) fun v hv => by
    obtain ⟨i, hi, rfl⟩ := List.mem_map.mp hv
    exact ⟨_, rfl, st i hi⟩
  rw [this]
  refine congrArg (fun z => EO.ok (RV.own z) h1) ?_
  show List.map _ (List.map _ _) = List.map _ (List.map _ _)
  rw [List.map_map, List.map_map]
  rfl
theorem lc_vals {vs : List Val} (F : Val → Val) (hi : it r h = .ok (vs, dep) h1) (hz : vs.length ≤ 16777216) (st : ∀ v, v ∈ vs → ∃ r1, g.put v (wipeE r own) = some r1 ∧ e r1 h1 = .ok (.v (F v)) h1) : eLc own g it tYes e r h = .ok (.own (vs.map F)) h1 := lc_map F hi hz st
theorem lc_natV (F : Nat → Val) (hi : it r h = .ok (vNats ns, dep) h1) (hz : ns.length ≤ 16777216) (st : ∀ i : Nat, i ∈ ns → e ((wipeE r own).set s (some (.v (.int (i : Int))))) h1 = .ok (.v (F i)) h1) : eLc own (.nm s) it tYes e r h = .ok (.own (ns.map F)) h1 := by
  have := lc_map (own := own) (g := .nm s) (e := e) (fun v => match v with | .int i => F i.toNat | _ => .none) hi (by rw [nats_len]; exact hz) fun v hv => by
    obtain ⟨i, hi, rfl⟩ := List.mem_map.mp hv
    exact ⟨_, rfl, st i hi⟩
  rw [this]
  refine congrArg (fun z => EO.ok (RV.own z) h1) ?_
  show List.map _ (List.map _ _) = List.map _ _
  rw [List.map_map]
  rfl
theorem pairs_zip : ∀ xs ys : List Nat, pairs (vNats xs) (vNats ys) = (List.zip xs ys).map fun p => Val.tup [.int (p.1 : Int), .int (p.2 : Int)]
  | [], _ => by unfold pairs; rfl
  | _ :: _, [] => by unfold pairs; rfl
  | x :: xs, w :: ws => by
    show pairs (.int x :: vNats xs) (.int w :: vNats ws) = _
    unfold pairs
    rw [pairs_zip xs ws]
    rfl
theorem zip_map (F : Nat → Nat → Nat) : ∀ xs ys : List Nat, ((List.zip xs ys).map fun p => Val.int (F p.1 p.2 : Nat)) = vNats (List.zipWith F xs ys)
  | [], _ => rfl
  | _ :: _, [] => rfl
  | x :: xs, y :: ys => congrArg (Val.int (F x y : Nat) :: ·) (zip_map F xs ys)
theorem lc_zip {s1 s2 : Nat} (F : Nat → Nat → Nat) (hi : it r h = .ok (pairs (vNats xs) (vNats ys), dep) h1) (hz : xs.length ≤ 16777216) (st : ∀ p, p ∈ List.zip xs ys → e (((wipeE r own).set s1 (some (.v (.int (p.1 : Int))))).set s2 (some (.v (.int (p.2 : Int))))) h1 = .ok (.v (.int (F p.1 p.2 : Nat))) h1) :
    eLc own (.tp [s1, s2]) it tYes e r h = .ok (.own (vNats (List.zipWith F xs ys))) h1 := by
  rw [pairs_zip] at hi
  have := lc_map (own := own) (g := .tp [s1, s2]) (e := e) (fun v => match v with | .tup [.int i, .int j] => .int (F i.toNat j.toNat : Nat) | _ => .none) hi (by rw [List.length_map, List.length_zip]; exact Nat.le_trans (Nat.min_le_left _ _) hz) fun v hv => by
    obtain ⟨p, hp, rfl⟩ := List.mem_map.mp hv
    exact ⟨_, rfl, st p hp⟩
  rw [this]
  refine congrArg (fun z => EO.ok (RV.own z) h1) ?_
  rw [List.map_map]
  exact zip_map F xs ys
end
end SM

/-! SMSt: the start of the laws' draws; comprehensions that draw. -/
namespace SM
theorem start_t (ns : List Int) (h : Heap) : ∃ (t : St) (st : List Val), fStart [.v (.scr (vInts ns))] h = .ok (.own st) h ∧ HObj.lst st = t.enc := by
  obtain ⟨st, e, ns', a, b, s, rfl, h1, h2, h3, h4⟩ := start_ok ns h
  refine ⟨⟨ns', a.toNat, b.toNat, s.toNat, by omega⟩, _, e, ?_⟩
  unfold St.enc
  dsimp only
  rw [Int.toNat_of_nonneg h1, Int.toNat_of_nonneg h2, Int.toNat_of_nonneg h3]
theorem lc_st {own : List Nat} {g : Tg} {it : I} {e : E} {r : Env} {t0 : St} {hs : Heap} {vs : List Val} (P : Val → Prop) (hi : it r (t0.enc :: hs) = .ok (vs, []) (t0.enc :: hs)) (hz : vs.length ≤ 16777216)
    (st : ∀ v, v ∈ vs → ∀ t : St, ∃ r1, g.put v (wipeE r own) = some r1 ∧ ∃ z t', e r1 (t.enc :: hs) = .ok (.v z) (St.enc t' :: hs) ∧ P z) :
    ∃ zs t', eLc own g it tYes e r (t0.enc :: hs) = .ok (.own zs) (St.enc t' :: hs) ∧ zs.length = vs.length ∧ ∀ z, z ∈ zs → P z := by
  obtain ⟨acc, h2, q, ⟨t', e2⟩, p2, p3⟩ := lc_ok (own := own) (g := g) (e := e) (P := fun k acc h => (∃ t : St, h = t.enc :: hs) ∧ acc.length = k ∧ ∀ z, z ∈ acc → P z) hi hz (fun i acc h p => fun _ hi => nomatch hi) ⟨⟨t0, rfl⟩, rfl, fun z hz => nomatch hz⟩ fun k x acc h hk ⟨⟨t, p1⟩, p2, p3⟩ => by
    subst p1
    obtain ⟨r1, e1, z, t', e2, pz⟩ := st x (List.mem_of_getElem? hk) t
    refine ⟨r1, e1, _, _, z, e2, rfl, ⟨t', rfl⟩, by rw [List.length_append, p2]; rfl, fun y hy => ?_⟩
    rcases List.mem_append.mp hy with c | c
    · exact p3 y c
    · rw [List.mem_singleton.mp c]; exact pz
  subst e2
  exact ⟨acc, t', q, p2, p3⟩
theorem all_nats {Q : Nat → Prop} : ∀ {zs : List Val}, (∀ z, z ∈ zs → ∃ n : Nat, z = .int (n : Int) ∧ Q n) → ∃ ns : List Nat, zs = vNats ns ∧ ∀ n, n ∈ ns → Q n
  | [], _ => ⟨[], rfl, fun n hn => nomatch hn⟩
  | z :: zs, h => by
    obtain ⟨n, e, q⟩ := h z List.mem_cons_self
    obtain ⟨ns, e2, q2⟩ := all_nats (zs := zs) fun y hy => h y (List.mem_cons_of_mem _ hy)
    refine ⟨n :: ns, by rw [e, e2]; rfl, fun m hm => ?_⟩
    rcases List.mem_cons.mp hm with c | c
    · rw [c]; exact q
    · exact q2 m c
/-- a comprehension of draws: numbers -/
theorem lc_stn {own : List Nat} {s : Nat} {it : I} {e : E} {r : Env} {t0 : St} {hs : Heap} {ks : List Nat} (Q : Nat → Prop) (hi : it r (t0.enc :: hs) = .ok (vNats ks, []) (t0.enc :: hs)) (hz : ks.length ≤ 16777216)
    (st : ∀ i : Nat, i ∈ ks → ∀ t : St, ∃ (z : Nat) (t' : St), e ((wipeE r own).set s (some (.v (.int (i : Int))))) (t.enc :: hs) = .ok (.v (.int (z : Int))) (t'.enc :: hs) ∧ Q z) (hs1 : s < r.length) :
    ∃ (zs : List Nat) (t' : St), eLc own (.nm s) it tYes e r (t0.enc :: hs) = .ok (.own (vNats zs)) (t'.enc :: hs) ∧ zs.length = ks.length ∧ ∀ z, z ∈ zs → Q z := by
  obtain ⟨zs, t', q, l, p⟩ := lc_st (own := own) (g := .nm s) (e := e) (fun v => ∃ n : Nat, v = .int (n : Int) ∧ Q n) hi (by rw [List.length_map]; exact hz) fun v hv t => by
    obtain ⟨i, hi, rfl⟩ := List.mem_map.mp hv
    obtain ⟨z, t', q, p⟩ := st i hi t
    exact ⟨_, rfl, _, t', q, z, rfl, p⟩
  obtain ⟨ns, rfl, p2⟩ := all_nats p
  rw [List.length_map, List.length_map] at l
  exact ⟨ns, t', q, l, p2⟩
/-! ### heaps that a call leaves behind -/
theorem fin_newS {h new : Heap} {s : PySem.Str} : fin h (.rt (.v (.str s)) (h ++ new)) = .ok (.v (.str s)) h := fin_new trivial
theorem fin_newB {h new : Heap} {b : Bool} : fin h (.rt (.v (.bool b)) (h ++ new)) = .ok (.v (.bool b)) h := fin_new trivial
theorem fin_newI {h new : Heap} {i : Int} : fin h (.rt (.v (.int i)) (h ++ new)) = .ok (.v (.int i)) h := fin_new trivial
theorem fin_newNo {h new : Heap} : fin h (.rt (.v .none) (h ++ new)) = .ok (.v .none) h := fin_new trivial
/-! ### lists times a number -/
theorem rep_0 : List.replicate 0 (none : Option RV) = [] := rfl
theorem rep_S {n : Nat} : List.replicate (n + 1) (none : Option RV) = none :: List.replicate n none := rfl
theorem flat_one {α : Type} {k : Nat} {x : α} : (List.replicate k [x]).flatten = List.replicate k x := by
  induction k with
  | zero => rfl
  | succ k ih => rw [List.replicate_succ, List.flatten_cons, ih]; rfl
theorem rep_n {x k : Nat} : List.replicate k (Val.int (x : Int)) = vNats (List.replicate k x) := (List.map_replicate (f := fun n : Nat => Val.int (n : Int)) (n := k) (a := x)).symm
theorem dec_tf {i : Decidable (true = false)} : @decide (true = false) i = false := decide_eq_false (fun h => nomatch h)
theorem dec_ft {i : Decidable (false = true)} : @decide (false = true) i = false := decide_eq_false (fun h => nomatch h)
theorem dec_F {i : Decidable False} : @decide False i = false := decide_eq_false id
theorem dec_T {i : Decidable True} : @decide True i = true := decide_eq_true trivial
/-! ### loops over range(n) -/
theorem for_rng {s n : Nat} {it : I} {b : S} {r : Env} {h h1 : Heap} (R : Nat → Env → Heap → Prop) (hi : it r h = .ok (vNats (List.range' 0 n), []) h1) (p : R 0 r h1)
    (st : ∀ j r h', j < n → R j r h' → ∃ r2 h2, b (r.set s (some (.v (.int (j : Int))))) h' = .nx r2 h2 ∧ R (j + 1) r2 h2) :
    ∃ r2 h2, sFor (.nm s) it b r h = .nx r2 h2 ∧ R n r2 h2 := by
  obtain ⟨r2, h2, e, q⟩ := for_nat (s := s) (b := b) (fun (_ : Unit) _ => ()) (fun k _ r h' => R k r h') () hi p fun k i a r h' hk q => by
    obtain ⟨hlt, he⟩ := List.getElem?_eq_some_iff.mp hk
    rw [List.length_range'] at hlt
    rw [List.getElem_range', Nat.zero_add, Nat.one_mul] at he
    subst he
    exact st k r h' hlt q
  rw [List.length_range'] at q
  exact ⟨r2, h2, e, q⟩
/-! ### two objects at the heap's end -/
theorem get_p0 {α : Type} {h r : List α} {a : α} : (h ++ a :: r)[h.length]? = some a := by
  rw [List.getElem?_append_right (Nat.le_refl _), Nat.sub_self]
  rfl
theorem get_p1 {α : Type} {h r : List α} {a b : α} : (h ++ a :: b :: r)[h.length + 1]? = some b := by
  rw [List.getElem?_append_right (Nat.le_add_right _ 1), Nat.add_sub_cancel_left]
  rfl
theorem set_p0 {α : Type} {h r : List α} {a y : α} : (h ++ a :: r).set h.length y = h ++ y :: r := by
  rw [List.set_append_right _ _ (Nat.le_refl _), Nat.sub_self]
  rfl
theorem set_p1 {α : Type} {h r : List α} {a b y : α} : (h ++ a :: b :: r).set (h.length + 1) y = h ++ a :: y :: r := by
  rw [List.set_append_right _ _ (Nat.le_add_right _ 1), Nat.add_sub_cancel_left]
  rfl
theorem fin_grow {h r : Heap} {a b : HObj} {e : Env} (h1 : b ≠ a) (h2 : ¬ b.under (h.length + 1)) : fin (h ++ [a]) (.nx e (h ++ b :: r)) = .ok (.v .none) (h ++ b :: r) := by
  have l : (h ++ [a]).length = h.length + 1 := by rw [List.length_append]; rfl
  have c : ¬ Shr (h ++ [a]) (h ++ b :: r) := fun s => by
    rcases s.2 h.length b (by rw [l]; exact Nat.lt_succ_self _) get_p0 with q | q
    · rw [get_p0] at q
      exact h1 (Option.some.inj q).symm
    · rw [l] at q
      exact h2 q
  unfold fin
  dsimp only
  rw [if_neg c]
end SM

set_option maxHeartbeats 1000000
/-! SMExAt: exceptions of the text whose __init__ calls super().__init__ and keeps one field. -/
namespace SM
open PySem (Str Expr Stmt Pos Operator CmpOp Scope)
open L2 hiding St tB tAnd tOr tNot iRng1 iRng2 iRng3
/-- what the written part says of such a class D, its __init__ at f, its cell at cc -/
structure XiC (P : PySem.Program) (K : Frag) (mg : Mg) (D cc c : Addr) : Prop where
  cell : ∃ cl cld csl, K.lookup cc = some ⟨cl, cld, .cell (some (.ref D)), csl⟩
  code : ∃ ccl cdd vs ccs file tf, K.lookup c = some ⟨ccl, cdd, .fields vs, ccs⟩ ∧ vs[2]? = some (.str file tf) ∧ ((P.main.file : Str) == file) = true
  top : (P.main.scope.names.lookup ("super" : Str)).isSome = false
  sup : mg "super" = none
  oex : OexC K D
  noAt : PySem.W.findIn K (.ref D) "at" = some none
  init : PySem.W.ks_superIn K D D "__init__" = some (some (.builtin "ValueError.__init__"))
  sub : PySem.W.subIn K (.ref D) (.type "ValueError") = some true
  mro : PySem.W.mroIn K D (.ref D) = some true
  any : PySem.W.nsIn K PySem.cStatics "thirdparty.any" = some none
def spXi (D : Addr) : Sp := fun vs H Q _ => ∃ a y, vs = [.ref a, y] ∧ H a = some (exo a D none) ∧ ∀ dx, H dx = none → dx ≠ a → Q .non (upd (upd H dx (exd dx [("at", y)])) a (exo a D (some dx)))
section
variable {P : PySem.Program} {w : PySem.World} {K : Frag} {mg : Mg} {base : PySem.Heap} {CX : CXT} {k : Nat} {f cc D : Addr} {F : NdefX.NF} {dV kV doc pm ct oc : PySem.Value} {an od : Option Addr} {osl : Array (Option PySem.Value)} {p0 p1 p2 p3 p4 p5 q0 q1 q2 q3 : Pos} {lit : Str} {j : Nat}
theorem xi_ok (hcl : F.cl = [(("__class__" : Str), cc)])
    (hb0 : F.body = [.Expr (.Call (.Attribute (.Call (.Name "super" p0) [] [] p1) "__init__" p2) [.Constant (.str lit) j p3] [] p4) p5, .Assign [.Attribute (.Name "self" q0) "at" q1] (.Name "at" q2) q3])
    (hps : (F.params.posonlyargs ++ F.params.args).head?.map (·.arg) = some ("self" : Str))
    (S : NdefX.NScope ["self", "at", "__class__"] ["self", "at"] ["__class__"] F.scope) (hsu : F.scope.names.lookup ("super" : Str) = some .globalImplicit)
    (lk : K.lookup f = some ⟨oc, od, .func (PySem.W.fnX F.name F.qual F.params F.body F.scope F.cl dV kV doc pm an (.ref F.c) ct), osl⟩) (hcd : PySem.W.codeIn K (.ref F.c) F.qual = true) (T : XiC P K mg D cc F.c) {pl : PySem.Sem Bool}
    (hev : ∀ L, PySem.eval (.Call (.Attribute (.Call (.Name "super" p0) [] [] p1) "__init__" p2) [.Constant (.str lit) j p3] [] p4) (NdefX.envF F f L) = (do
      let o ← PySem.attributeBase (.Call (.Name "super" p0) [] [] p1) "__init__" (NdefX.envF F f L) (PySem.eval (.Call (.Name "super" p0) [] [] p1) (NdefX.envF F f L))
      PySem.standAt p2.atName
      let (g, fst) ← PySem.holding [o] (PySem.getMethod o "__init__" pl)
      PySem.callWith p4 g fst (PySem.backTo p4 (PySem.starEach [.Constant (.str lit) j p3] (NdefX.envF F f L))) []) := by intro L; rfl)
    (hin : ∀ L, PySem.interactive (NdefX.envF F f L) = false := by intro L; rfl)
    (hsw : ∀ L, PySem.swapsWith (.Call (.Attribute (.Call (.Name "super" p0) [] [] p1) "__init__" p2) [.Constant (.str lit) j p3] [] p4) none p5.line (NdefX.envF F f L) = pure false := by intro L; rfl)
    (hsw2 : ∀ L, PySem.swapsWith (.Name "at" q2) (some (.Attribute (.Name "self" q0) "at" q1)) q3.line (NdefX.envF F f L) = pure false := by intro L; rfl) :
    FnOk P w K mg base CX (k + 1) f (PySem.W.fnX F.name F.qual F.params F.body F.scope F.cl dV kV doc pm an (.ref F.c) ct) ["self", "at"] (spXi D) := by
  refine ⟨fun vs H Q E ⟨a, y, e, _⟩ => by rw [e]; rfl, fun A outer s H args us vs Q E hr e0 hb r hsp => ?_⟩
  obtain ⟨a, y, rfl, ea, q⟩ := hsp
  have KX : K.In s.heap := e0.mod.kin.keeps fun b o e => (e0.bs b o e).1
  have lim : s.heap.NoLimit := e0.mod.nolimit.keeps fun b o e => (e0.bs b o e).1
  obtain ⟨cl, cld, csl, hcell⟩ := T.cell
  have C : NdefX.CellsAt F.cl ["__class__"] [some (.ref D)] s.heap H := by
    have hcb := e0.mod.kin _ _ hcell
    have hn := (e0.bs _ _ hcb).2
    have hh := (e0.bs _ _ hcb).1
    rw [hcl]
    refine ⟨rfl, fun y c e => ?_, fun x y c e1 e2 => ?_, fun i y e => ?_⟩
    · have : c = cc := by
        rw [List.lookup_cons] at e
        split at e
        · exact (Option.some.inj e).symm
        · cases e
      subst this
      exact ⟨hn, _, _, hh, rfl⟩
    · have h1 : x = "__class__" := by
        rw [List.lookup_cons] at e1
        split at e1
        · rename_i hx; exact eq_of_beq hx
        · cases e1
      have h2 : y = "__class__" := by
        rw [List.lookup_cons] at e2
        split at e2
        · rename_i hx; exact eq_of_beq hx
        · cases e2
      rw [h1, h2]
    · have hi : y = "__class__" := by
        cases i with
        | zero => cases e; rfl
        | succ i => cases e
      subst hi
      refine ⟨cc, by rw [List.lookup_cons, beq_self_eq_true], fun v hv => ?_⟩
      cases i with
      | zero =>
        cases hv
        exact ⟨.ref D, rfl, _, hh, rfl⟩
      | succ i => cases hv
  refine PySem.codeAny_call_function hr.depth (KX _ _ lk) rfl S.co S.gen rfl (PySem.W.codeRec_of KX hcd) (hb _ _ _ _ ?_)
  refine PySem.wpAny_newFunctionEnv S.nocell (fun ⟨n, _⟩ hy => S.par n (List.of_mem_zip hy).1) (fun h₁ hns hsb => ⟨lim.fresh _ hsb, ?_⟩) S.kind
  show PySem.codeAny _ _ (.func F.body (NdefX.envF F f s.heap.objs.size)) _ _
  refine PySem.ks_codeAny_funcAt ?_
  have kp : ∀ b o, s.heap.get? b = some o → h₁.get? b = some o := fun b o e => hsb.extBut b o (Nat.ne_of_lt (PySem.Heap.lt_size e)) (PySem.Heap.get?_push_of_some _ e)
  have I : Inv (NdefX.ncx CX P w K mg base ["self", "at", "__class__"] F f A outer s H E) [] (NdefX.startF ["self", "at", "__class__"] [.ref a, y] [some (.ref D)]) H { s with heap := h₁, toks := s.toks + ([("self" : Str), "at"].zip us).length } :=
    NdefX.inv_startN S hr.hd e0 rfl r C hns kp
  rw [hb0]
  have kS : (NdefX.envF F f s.heap.objs.size).kindOf "super" = some .globalImplicit := hsu
  have kC : (NdefX.envF F f s.heap.objs.size).kindOf "__class__" = some .free := S.frk _ (List.mem_singleton.mpr rfl)
  have kL : (NdefX.envF F f s.heap.objs.size).kindOf "self" = some .local := S.par _ List.mem_cons_self
  have kF : (NdefX.envF F f s.heap.objs.size).scope.kind = .function := S.kind
  obtain ⟨ccl, cdd, vs, ccs, file, tf, hcode, hvs, hfile⟩ := T.code
  obtain ⟨nm, qn, N, bs, bm, sn, sub, ab, col, dd, k0, k1, k2, k3, k5, hC, hbm⟩ := T.oex.cls
  obtain ⟨ar, har, har2⟩ : ∃ ar, (F.params.posonlyargs ++ F.params.args).head? = some ar ∧ ar.arg = ("self" : Str) := by
    cases h : (F.params.posonlyargs ++ F.params.args).head? with
    | none => rw [h] at hps; cases hps
    | some ar => rw [h] at hps; exact ⟨ar, rfl, Option.some.inj hps⟩
  obtain ⟨mb, hmb1, hmb2⟩ := I.mod.blt
  obtain ⟨m, hm1, hm2⟩ := I.loc
  obtain ⟨u0, hu0, hlook⟩ := hm2 0 "self" (.ref a) rfl rfl (.inl (S.par _ List.mem_cons_self))
  obtain rfl : u0 = PySem.Value.ref a := hu0
  have hself : m "self" = some (PySem.Value.ref a) := by
    rcases hlook with ⟨_, z⟩ | ⟨z | z, _⟩
    · exact z
    · exact absurd (kL.symm.trans z) (by decide)
    · exact absurd (kL.symm.trans z) (by decide)
  obtain ⟨t1, ho⟩ := exo_at I.hok ea
  have lookC : F.cl.lookup ("__class__" : Str) = some cc := by rw [hcl, List.lookup_cons, beq_self_eq_true]
  have hboot : PySem.bootBuiltins "super" = some (.type "super") := by decide +kernel
  have hcd2 : PySem.W.clsIn K D = some { name := nm, bases := bs, mro := .ref D :: bm, ns := N, qualname := qn, hasDict := true, slotNames := sn, subclasses := sub, abstract := ab, collection := col, hasDel := false } := by
    unfold PySem.W.clsIn; rw [hC] <;> rfl
  have haD : a ≠ D := fun z => by
    have e := I.kIn _ _ hC
    rw [← z, ho] at e
    cases e
  have hsup := T.init
  unfold PySem.W.ks_superIn at hsup
  rw [hcd2] at hsup
  refine PySem.ks_wpAt_execs_cons (PySem.ks_wpAt_Expr_any (PySem.ks_wpAt_MethodCall ?_ (hev _)) (hin _) (hsw _))
  refine PySem.ks_wpAt_super_base (f := f) (cc := F.c) (ar := ar) kS kC (by decide) rfl (I.kIn _ _ lk) rfl har rfl (I.kIn _ _ hcode) rfl hvs hfile T.top ?_
  refine PySem.W.ks_loadName_global kF kS (PySem.Calls.loadGlobal_builtin (I.mod.glob.keeps I.bk) T.sup (hmb1.keeps I.bk) ((hmb2 _ (by decide)).trans hboot) ⟨rfl, ?_⟩)
  refine PySem.wpAny_loadName_free kF kC (c := cc) lookC ⟨_, I.kIn _ _ hcell, rfl⟩ ?_
  rw [har2]
  refine PySem.wpAny_loadName_local kF kL hm1 hself ?_
  refine PySem.ks_wpAny_isType_cls (I.kIn _ _ hC) rfl ⟨rfl, ?_⟩
  refine PySem.ks_wpAny_call_super (I.kIn _ _ hC) rfl ho rfl (fun c e => by cases e) (PySem.W.looks_mroIn I.kIn T.mro) (fun h' e' k' => ?_)
  have I2 := I.kept (t' := s.toks + ([("self" : Str), "at"].zip us).length) k'
  have ia : PySem.W.InstAt h' a ({ cls := .ref D, dict := none, data := .fields #[.ref t1, .none, .none, .none, .bool false, .none] } : PySem.Obj) D none := ⟨k' _ _ ho, rfl, rfl, trivial⟩
  refine PySem.W.kxs_getMethod PySem.W.kxs_ValueError (l₀ := .ref D :: bm) e' (PySem.W.looks_opaque I2.kIn T.any) ((PySem.W.looks_clsIn I2.kIn hcd2).andThen .now) rfl I2.kIn hsup (ia.type.andThen (PySem.W.looks_subIn I2.kIn T.sub)) haD (by decide) ?_
  have I3 := I2.kept (h' := h'.push (PySem.W.kxs_mw "ValueError.__init__" a)) (t' := s.toks + ([("self" : Str), "at"].zip us).length + 1) (fun b o e => PySem.Heap.get?_push_of_some _ e)
  have gu : (h'.push (PySem.W.kxs_mw "ValueError.__init__" a)).get? h'.objs.size = some (PySem.W.kxs_mw "ValueError.__init__" a) := PySem.Heap.get?_push_at rfl rfl
  have I4 := I3.pins_of (pins' := [(h'.objs.size, PySem.W.kxs_mw "ValueError.__init__" a)]) (fun p hp => by
    rw [List.mem_singleton.mp hp]
    exact ⟨gu, I2.hok.fresh (Nat.le_refl _), Nat.ne_of_gt I2.lt, I2.nofs (Nat.le_refl _), fun v z => nomatch z⟩)
  refine PySem.W.kxs_callWith (i := "ValueError.__init__") (x := a) rfl (PySem.Calls.evalArgs_plain ?_)
  have hlit : PA (NdefX.ncx CX P w K mg base ["self", "at", "__class__"] F f A outer s H E) [.Constant (.str lit) j p3] (tCons (tC (.str lit)) tNil) := pa_cons pe_str pa_nil rfl
  refine PySem.wpAny_mono (hlit.run p4 [(h'.objs.size, PySem.W.kxs_mw "ValueError.__init__" a)] ⟨h'.push (PySem.W.kxs_mw "ValueError.__init__" a), s.gens, s.drawn, s.toks + ([("self" : Str), "at"].zip us).length + 1, s.os⟩ (NdefX.startF ["self", "at", "__class__"] [.ref a, y] [some (.ref D)]) H (fun vs H1 => vs = [V.str lit] ∧ H1 = H) I4 ⟨rfl, rfl⟩) (fun ws s5 ⟨vs5, H5, I5, r5, e5, e6⟩ => ?_) fun e s' hs => hs
  subst e5 e6
  have g5 := (I5.pin (h'.objs.size, PySem.W.kxs_mw "ValueError.__init__" a) (List.mem_append_right _ List.mem_cons_self)).1
  refine ⟨g5, ?_⟩
  have hz : ws.length ≤ PySem.sizeLine := by
    rw [← r5.length]
    show 1 ≤ PySem.sizeLine
    rw [PySem.sizeLine_eq]
    decide
  obtain ⟨t5, ho5⟩ := exo_at I5.hok ea
  obtain ⟨hh, g5', d5, tk5, os5⟩ := s5
  refine PySem.wpAny_call (PySem.codeAny_of_tree ?_)
  show PySem.wpAny _ _ (PySem.callAny (.ref h'.objs.size) ⟨[] ++ ws, []⟩) _ _ _
  simp only [PySem.callAny, List.nil_append]
  refine PySem.wpAny_bind (PySem.wpAny_load g5 ?_)
  have d1 : (PySem.Value.type "method-wrapper" == PySem.Value.type "method" || PySem.Value.type "method-wrapper" == PySem.Value.type "builtin_function_or_method" || PySem.Value.type "method-wrapper" == PySem.Value.type "method-wrapper") = true := by decide
  simp only [PySem.W.kxs_mw, d1, if_true]
  refine PySem.W.KFB.if_so (by decide) ?_
  refine PySem.wpAny_bind (PySem.W.check_bound_init PySem.F.excBase_ValueError.toExcCallFacts (I5.kIn _ _ hC) ho5 rfl ?_)
  refine PySem.wpAny_bind (PySem.wpAny_pure (PySem.wpAny_pure ?_))
  refine ⟨PySem.plainId_quiet PySem.F.excBase_ValueError.init.plain _, PySem.codeAny_builtin PySem.F.excBase_ValueError.initEntry ?_⟩
  refine PySem.W.exc_init_tree (cls := .ref D) (t0 := t5) (dv := none) (c2 := .none) (c3 := .none) (b4 := .bool false) ho5 hz fun h6 k6 x6 _ => ?_
  have I6 := I5.write (t' := tk5) (x := a) (e := a) (o := exo a D none) (by rw [ea]; exact True.intro) (.inl rfl) k6 ⟨_, x6⟩ (exo_ok x6)
  have eu : upd H5 a (exo a D none) = H5 := funext fun b => by
    by_cases hb : b = a
    · rw [hb, upd_same, ea]
    · rw [upd_ne hb]
  rw [eu] at I6
  have hst : PSs (NdefX.ncx CX P w K mg base ["self", "at", "__class__"] F f A outer s H5 E) [.Assign [.Attribute (.Name "self" q0) "at" q1] (.Name "at" q2) q3] (tOst K "at" (tVar 0) (tVar 1)) :=
    pss_one (ps_ost (pe_var rfl (.inl (S.par _ List.mem_cons_self))) (pe_var rfl (.inl (S.par _ (List.mem_cons_of_mem _ List.mem_cons_self)))) (hsw2 _))
  show PySem.wpAt _ _ _ (PySem.execs _ _) _ _ _
  refine PySem.wpAt_of_wpAny (PySem.wpAny_mono (hst.run [(h'.objs.size, PySem.W.kxs_mw "ValueError.__init__" a)] _ (NdefX.startF ["self", "at", "__class__"] [.ref a, y] [some (.ref D)]) H5 { nx := fun _ H' => Q .non H', rt := Q } I6
    ⟨y, rfl, .ref a, rfl, a, D, rfl, T.oex, T.noAt, .inl ⟨ea, q⟩⟩) (fun fl s' hs => ?_) fun e s' hs => hs)
  cases fl with
  | ret u =>
    obtain ⟨v, σ', H', J, rv, q'⟩ := hs
    exact ⟨v, H', J.os, J.bare, J.base, J.hok, rv, q'⟩
  | next =>
    obtain ⟨σ', H', J, q'⟩ := hs
    exact ⟨V.non, H', J.os, J.bare, J.base, J.hok, rfl, q'⟩
  | brk =>
    obtain ⟨_, _, _, q'⟩ := hs
    exact False.elim q'
  | cont =>
    obtain ⟨_, _, _, q'⟩ := hs
    exact False.elim q'
end
/-! ### raise X(e) -/
def Rw.newX (w : Rw) (p : Addr) (y : V) : Rw := { w with H := upd w.H p (.xd [("at", y)]) }
theorem Le.newX {w : Rw} {p : Addr} {y : V} (hp : w.H p = none) : Le w (w.newX p y) :=
  ⟨Nat.le_refl _, fun _ _ => rfl, fun b o e _ => (upd_ne (ne_of_none e hp)).trans e, fun b o e => ⟨o, (upd_ne (ne_of_none e hp)).trans e⟩, fun b o e => Iff.rfl, fun k h1 h2 => absurd h2 (Nat.not_lt.mpr h1)⟩
theorem RHp.newX {K : Frag} {mg : Mg} {w : Rw} {h : Heap} (R : RHp K mg w h) {p : Addr} {y : V} (hp : w.H p = none) : RHp K mg (w.newX p y) h :=
  R.laid (Le.newX hp) rfl rfl (fun b o e => (upd_ne (ne_of_none e hp)).trans e) fun b hb => .inl hb
structure XaOk (P : PySem.Program) (w : PySem.World) (K : Frag) (mg : Mg) (base : PySem.Heap) (k : Nat) (x : Str) : Prop where
  ex : ∃ C fI fd, mg x = some (.ref C) ∧ OexC K C ∧ PySem.W.findIn K (.ref C) "__init__" = some (some (.ref fI)) ∧ PySem.W.typeIn K (.ref fI) = some (.type "function") ∧
    FnOk P w K mg base CX0 k fI fd ["self", "at"] (spXi C) ∧ Binds K fd ["self", "at"] []
def sRaiseAt (x : Str) (fe : E) : S := fun r h => match fe r h with
  | .ok (.v v) h1 => .ex ⟨x, [v]⟩ r h1
  | _ => .no
section
variable {X : Cx} {W : WX} {w0 : Rw} {M0 : Addr → Prop} {x : Str} {e : Expr} {fe : E} {p pos pos' : Pos} {k j : Nat}
theorem b_raiseAt (c : XaOk X.prog X.w X.K X.mg X.base k x) (hr : Room j X.A) (hc : X.calm = true) (tk : Takes X W) (ha : PEs X W e fe) (hk : k + 1 ≤ j := by decide) (hg : Gl X x := by rfl) (hdb : (x == ("__debug__" : Str)) = false := by decide)
    (he : PySem.starEach [e] X.env = (false, PySem.eval e X.env) :: PySem.starEach [] X.env := by rfl) (hpl : (PySem.backTo pos (PySem.starEach [] X.env)).any (·.1) = false := by rfl) :
    PSs' X W w0 M0 (.Raise (some (.Call (.Name x p) [e] [] pos)) none pos') (sRaiseAt x fe) := by
  obtain ⟨C, fI, fd, gC, T, iC, tI, F1, hb⟩ := c.ex
  refine PS.weak (ps_raise hc tk (pmk_oex (CX := CX0) (dvs := []) (ds := []) T iC tI F1 (hr.mono hk) hb .nil pass0 hg gC (pa_cons ha pa_nil he) hdb he hpl)) fun D σ H ⟨w, r, h, e, R, k⟩ => ?_
  subst e
  refine ⟨w, r, h, rfl, R.rel, ?_⟩
  unfold sRaiseAt at k
  cases hfe : fe r h with
  | no => rw [hfe] at k; exact k.elim
  | ex e1 h1 => rw [hfe] at k; exact k.elim
  | ok y h1 =>
    rw [hfe] at k
    cases y with
    | own ys => exact k.elim
    | view ys => exact k.elim
    | v v =>
      intro w1 u l1 R1 q1
      refine ⟨(by decide : 1 ≤ 1000), fun a na => ⟨a, u, rfl, upd_same, fun dx nd da => ⟨rfl, dx, [("at", u)], upd_same, (upd_ne da).trans upd_same, (upd_ne da).symm.trans nd, ?_⟩⟩⟩
      have nd' : w1.H dx = none := (upd_ne da).symm.trans nd
      have eq : upd (del (upd (upd (upd w1.H a (exo a C none)) dx (exd dx [("at", u)])) a (exo a C (some dx))) a) dx (.xd [("at", u)]) = (w1.newX dx u).H := funext fun b => by
        show _ = upd w1.H dx (.xd [("at", u)]) b
        by_cases h1 : b = dx
        · rw [h1, upd_same, upd_same]
        · rw [upd_ne h1, upd_ne h1]
          by_cases h2 : b = a
          · rw [h2, del_same, na]
          · rw [del_ne h2, upd_ne h2, upd_ne h1, upd_ne h2]
      rw [eq]
      exact k (w1.newX dx u) σ (.ref C) (some dx) ((R.le' l1 R1).le' (Le.newX nd') (R1.newX nd')) ⟨C, rfl, gC, dx, u, rfl, upd_same, R1.notP nd', RVal.le R1 (Le.newX nd') q1⟩
end
/-! ### what the written part says, in one -/
structure XaD (P : PySem.Program) (K : Frag) (mg : Mg) (x qual : Str) (st : Stmt) : Prop where
  ex : ∃ C cc c f oc od an osl dV kV doc pm ct, mg x = some (.ref C) ∧ XiC P K mg C cc c ∧ PySem.W.findIn K (.ref C) "__init__" = some (some (.ref f)) ∧ PySem.W.typeIn K (.ref f) = some (.type "function") ∧
    K.lookup f = some ⟨oc, od, .func (PySem.W.fnX "__init__" qual (defArgs st) (defBody st) (defScope st) [(("__class__" : Str), cc)] dV kV doc pm an (.ref c) ct), osl⟩ ∧ PySem.W.codeIn K (.ref c) qual = true ∧
    Binds K (PySem.W.fnX "__init__" qual (defArgs st) (defBody st) (defScope st) [(("__class__" : Str), cc)] dV kV doc pm an (.ref c) ct) ["self", "at"] []
end SM

/-! SMStr: texts: join, split, find, upper, str(), int(), all(). -/
namespace SM
open PySem (Str Expr Stmt Pos Operator CmpOp Scope)
open L2 hiding St tB tAnd tOr tNot iRng1 iRng2 iRng3
def strsOf : List Val → Option (List Str)
  | [] => some []
  | .str x :: vs => (strsOf vs).map (x :: ·)
  | _ => none
/-- a text's method of one argument, of none -/
def sm1K (f : Str → F1) (b : E) (r : Env) : RV → Heap → EO RV := fun x h1 => match x with
  | .v (.str s) => (b r h1).bind fun y h2 => opt (f s h2 y) h2
  | _ => .no
def eSm (f : Str → F1) (a b : E) : E := fun r h => (a r h).bind (sm1K f b r)
def fJoin (s : Str) : F1 := fun h y => match look h y with
  | some (_, xs) => match strsOf xs with
    | some ys => if (ys.map (·.length)).sum + ys.length * s.length ≤ 16777216 then some (.v (.str (PySem.Txt.join s ys))) else none
    | none => none
  | none => none
def fSplit (s : Str) : F1 := fun _ y => match y with
  | .v (.str b) => if (b.length == 0) = false ∧ s.length + 2 ≤ PySem.sizeLine then some (.own ((PySem.Txt.split s b).map .str)) else none
  | _ => none
def fFind (s : Str) : F1 := fun _ y => match y with
  | .v (.str b) => some (.v (.int (PySem.Txt.find s b)))
  | _ => none
def fUpper : F1 := fun _ x => match x with
  | .v (.str a) => if a.length ≤ 5592405 then some (.v (.str (PySem.Txt.upper a))) else none
  | _ => none
def fStr : F1 := fun _ x => match x with
  | .v (.int i) => if i.natAbs.log2 < 1920 then some (.v (.str (toString i))) else none
  | .v (.str a) => some (.v (.str a))
  | _ => none
def fIntS : F1 := fun _ x => match x with
  | .v (.str a) => if a.length ≤ 640 then (PySem.intText? a).map fun n => .v (.int n) else none
  | _ => none
section
variable {K : Frag} {mg : Mg} {w : Rw}
theorem strs_rel : ∀ {xs : List Val} {ys : List Str} {vs : List V}, strsOf xs = some ys → RVals K w xs vs → vs = ys.map V.str
  | [], _, _, e, q => by cases e; exact q
  | .str x :: xs, ys, vs, e, ⟨y, r, e1, e2, q⟩ => by
    unfold strsOf at e
    cases h : strsOf xs with
    | none => rw [h] at e; cases e
    | some zs =>
      rw [h] at e
      cases e
      rw [e1, show y = V.str x from e2, strs_rel h q]
      rfl
  | .none :: _, _, _, e, _ => by cases e
  | .bool _ :: _, _, _, e, _ => by cases e
  | .int _ :: _, _, _, e, _ => by cases e
  | .tup _ :: _, _, _, e, _ => by cases e
  | .ro _ :: _, _, _, e, _ => by cases e
  | .scr _ :: _, _, _, e, _ => by cases e
  | .obj _ :: _, _, _, e, _ => by cases e
  | .err _ _ _ :: _, _, _, e, _ => by cases e
theorem strs_vals : ∀ {ys : List Str}, RVals K w (ys.map Val.str) (ys.map V.str)
  | [] => rfl
  | y :: ys => ⟨_, _, rfl, rfl, strs_vals⟩
theorem sm_cut {W : WX} {f : Str → F1} {r1 : Str → V → Hp → VK → Prop} {fa fb : E} {r2 : V → List V → Hp → VK → Prop} (hf : ∀ s, F1Ok K mg (f s) (r1 s)) (hr : ∀ s y H Q, r1 s y H Q → r2 (.str s) [y] H Q) : ∀ σ H Q, tE K mg W (eSm f fa fb) σ H Q → tM1 r2 (tE K mg W fa) (tE K mg W fb) σ H Q := fun σ H Q ⟨w, r, h, e, R, k⟩ => by
  subst e
  refine ⟨w, r, h, rfl, R, EK.cut (f := sm1K f fb r) (fun x h1 w1 v1 l1 R1 q1 k1 => ?_) k⟩
  cases x with
  | own _ => exact k1.elim
  | view _ => exact k1.elim
  | v x =>
    cases x with
    | str s =>
      refine ⟨⟨s, q1⟩, ⟨w1, r, h1, rfl, R.le l1 R1, EK.cut (fun y h2 w2 v2 l2 R2 q2 k2 => ?_) k1⟩⟩
      obtain ⟨z, ez, kz⟩ := opt_cut k2
      have e1 : v1 = V.str s := q1
      subst e1
      exact hr _ _ _ _ (hf s w2 w1 h2 y z v2 Q R2 q2 ez kz)
    | none => exact k1.elim
    | bool _ => exact k1.elim
    | int _ => exact k1.elim
    | tup _ => exact k1.elim
    | ro _ => exact k1.elim
    | scr _ => exact k1.elim
    | obj _ => exact k1.elim
    | err _ _ _ => exact k1.elim
end
section
variable {X : Cx} {W : WX} {a b : Expr} {fa fb : E} {p pos apos : Pos}
theorem s_join (ha : PEs X W a fa) (hb : PEs X W b fb) (hs : PySem.starEach [b] X.env = [(false, PySem.eval b X.env)] := by rfl) (hbase : PySem.attributeBase a "join" X.env (PySem.eval a X.env) = PySem.eval a X.env := by rfl) (hline : (apos.endLine == pos.line) = true := by rfl) :
    PEs X W (.Call (.Attribute a "join" apos) [b] [] pos) (eSm fJoin fa fb) :=
  PE.weak (pe_join ha hb hs hbase hline) (sm_cut (r1 := fun s y H Q => ∃ p, ∃ ys : List Str, y = .ref p ∧ (SqL X.K H p (ys.map V.str) ∨ SqT X.K H p (ys.map V.str)) ∧ (ys.map (·.length)).sum + ys.length * s.length ≤ 16777216 ∧ Q (.str (PySem.Txt.join s ys)) H)
    (fun s w w0 h y z vy Q R qy e k => by
      unfold fJoin at e
      cases hl : look h y with
      | none => rw [hl] at e; cases e
      | some p =>
        obtain ⟨tp, xs⟩ := p
        rw [hl] at e
        dsimp only at e
        cases hs : strsOf xs with
        | none => rw [hs] at e; cases e
        | some ys =>
          rw [hs] at e
          dsimp only at e
          split at e
          case isFalse => cases e
          rename_i hz
          cases e
          cases tp with
          | true =>
            obtain ⟨p, zs, e1, s1, q, ex⟩ := look_tup R qy hl
            rw [strs_rel hs q] at s1
            exact ⟨p, ys, e1, .inr s1, hz, k w _ (Le.refl w) R rfl⟩
          | false =>
            obtain ⟨p, zs, e1, s1, q⟩ := look_lst R qy hl
            rw [strs_rel hs q] at s1
            exact ⟨p, ys, e1, .inl s1, hz, k w _ (Le.refl w) R rfl⟩)
    fun s y H Q ⟨p, ys, e1, e2, e3, e4⟩ => ⟨s, p, ys, rfl, by rw [e1], e2, e3, e4⟩)
theorem s_split (ha : PEs X W a fa) (hb : PEs X W b fb) (hs : PySem.starEach [b] X.env = [(false, PySem.eval b X.env)] := by rfl) (hbase : PySem.attributeBase a "split" X.env (PySem.eval a X.env) = PySem.eval a X.env := by rfl) (hline : (apos.endLine == pos.line) = true := by rfl) :
    PEs X W (.Call (.Attribute a "split" apos) [b] [] pos) (eSm fSplit fa fb) :=
  PE.weak (pe_split ha hb hs hbase hline) (sm_cut (r1 := fun s y H Q => ∃ b, y = .str b ∧ (b.length == 0) = false ∧ s.length + 2 ≤ PySem.sizeLine ∧ rNewStrs (PySem.Txt.split s b) H Q)
    (fun s w w0 h y z vy Q R qy e k => by
      unfold fSplit at e
      split at e
      · rename_i b
        split at e
        case isFalse => cases e
        rename_i hz
        cases e
        exact ⟨b, qy, hz.1, hz.2, fun t ht => k (w.newL t _) _ (Le.newL ht R) (R.newL ht) (res_newL R ht strs_vals)⟩
      · cases e)
    fun s y H Q ⟨b, e1, e2, e3, e4⟩ => ⟨s, b, rfl, by rw [e1], e2, e3, e4⟩)
theorem s_find (ha : PEs X W a fa) (hb : PEs X W b fb) (hs : PySem.starEach [b] X.env = [(false, PySem.eval b X.env)] := by rfl) (hbase : PySem.attributeBase a "find" X.env (PySem.eval a X.env) = PySem.eval a X.env := by rfl) (hline : (apos.endLine == pos.line) = true := by rfl) :
    PEs X W (.Call (.Attribute a "find" apos) [b] [] pos) (eSm fFind fa fb) :=
  PE.weak (pe_m1 PySem.F.slot_str_find PySem.F.type_str_find mt_find ha hb hs hbase hline) (sm_cut (r1 := fun s y H Q => ∃ b, y = .str b ∧ Q (.int (PySem.Txt.find s b)) H)
    (fun s w w0 h y z vy Q R qy e k => by
      unfold fFind at e
      split at e
      · rename_i b
        cases e
        exact ⟨b, qy, k w _ (Le.refl w) R rfl⟩
      · cases e)
    fun s y H Q ⟨b, e1, e2⟩ => ⟨s, b, rfl, by rw [e1], e2⟩)
theorem s_upper (ha : PEs X W a fa) (hbase : PySem.attributeBase a "upper" X.env (PySem.eval a X.env) = PySem.eval a X.env := by rfl) (hline : (apos.endLine == pos.line) = true := by rfl) :
    PEs X W (.Call (.Attribute a "upper" apos) [] [] pos) (e1 fUpper fa) :=
  PE.weak (pe_upper ha hbase hline) fun σ H Q ⟨w, r, h, e, R, k⟩ => by
    subst e
    refine ⟨w, r, h, rfl, R, EK.cut (fun x h1 w1 v1 l1 R1 q1 k1 => ?_) k⟩
    obtain ⟨z, ez, kz⟩ := opt_cut k1
    unfold fUpper at ez
    split at ez
    · rename_i t
      split at ez
      case isFalse => cases ez
      rename_i hz
      cases ez
      exact ⟨⟨t, q1⟩, t, q1, rfl, hz, kz w1 _ (Le.refl w1) R1 rfl⟩
    · cases ez
theorem callR_or {f : PySem.Value} {r1 r2 : List V → Hp → VK → Prop} (h1 : CallR X f r1) (h2 : CallR X f r2) : CallR X f (fun xs H Q => r1 xs H Q ∨ r2 xs H Q) := fun pins s σ H vs us Q I r h => h.elim (h1 pins s σ H vs us Q I r) (h2 pins s σ H vs us Q I r)
theorem s_strOf (hg : Gl X "str") (hm : X.mg "str" = none) (ha : PEs X W a fa) (hs : PySem.starEach [a] X.env = (false, PySem.eval a X.env) :: PySem.starEach [] X.env := by rfl) (hpl : (PySem.backTo pos (PySem.starEach [] X.env)).any (·.1) = false := by rfl) :
    PEs X W (.Call (.Name "str" p) [a] [] pos) (e1 fStr fa) :=
  PE.weak (pe_callTy (callR_or call_str_int SkE.call_str_str) hg hm (by decide +kernel) (pa_cons ha pa_nil hs) (by decide) (by decide) hs hpl) (c1_cut fun w w0 h x z vx Q R qx e k => by
    unfold fStr at e
    split at e
    · rename_i i
      split at e
      case isFalse => cases e
      rename_i hz
      cases e
      exact .inl ⟨i, congrArg (fun v => [v]) qx, hz, k w _ (Le.refl w) R rfl⟩
    · rename_i t
      cases e
      exact .inr ⟨t, congrArg (fun v => [v]) qx, k w _ (Le.refl w) R rfl⟩
    · cases e)
theorem s_intS (hg : Gl X "int") (hm : X.mg "int" = none) (ha : PEs X W a fa) (hs : PySem.starEach [a] X.env = (false, PySem.eval a X.env) :: PySem.starEach [] X.env := by rfl) (hpl : (PySem.backTo pos (PySem.starEach [] X.env)).any (·.1) = false := by rfl) :
    PEs X W (.Call (.Name "int" p) [a] [] pos) (e1 fIntS fa) :=
  PE.weak (pe_callTy call_int_str hg hm (by decide +kernel) (pa_cons ha pa_nil hs) (by decide) (by decide) hs hpl) (c1_cut fun w w0 h x z vx Q R qx e k => by
    unfold fIntS at e
    split at e
    · rename_i t
      split at e
      case isFalse => cases e
      rename_i hz
      cases hi : PySem.intText? t with
      | none => rw [hi] at e; cases e
      | some n =>
        rw [hi] at e
        cases e
        exact ⟨t, n, congrArg (fun v => [v]) qx, hi, hz, k w _ (Le.refl w) R rfl⟩
    · cases e)
def boolsOf : List Val → Option (List Bool)
  | [] => some []
  | .bool b :: vs => (boolsOf vs).map (b :: ·)
  | _ => none
theorem bools_rel {K : Frag} {w : Rw} : ∀ {xs : List Val} {ys : List Bool} {vs : List V}, boolsOf xs = some ys → RVals K w xs vs → vs = ys.map V.bl
  | [], _, _, e, q => by cases e; exact q
  | .bool x :: xs, ys, vs, e, ⟨y, r, e1, e2, q⟩ => by
    unfold boolsOf at e
    cases h : boolsOf xs with
    | none => rw [h] at e; cases e
    | some zs =>
      rw [h] at e
      cases e
      rw [e1, show y = V.bl x from e2, bools_rel h q]
      rfl
  | .none :: _, _, _, e, _ => by cases e
  | .str _ :: _, _, _, e, _ => by cases e
  | .int _ :: _, _, _, e, _ => by cases e
  | .tup _ :: _, _, _, e, _ => by cases e
  | .ro _ :: _, _, _, e, _ => by cases e
  | .scr _ :: _, _, _, e, _ => by cases e
  | .obj _ :: _, _, _, e, _ => by cases e
  | .err _ _ _ :: _, _, _, e, _ => by cases e
def fAllB : F1 := fun h x => match lookL h x with
  | some xs => match boolsOf xs with
    | some bs => some (.v (.bool (bs.all id)))
    | none => none
  | none => none
theorem s_all (hc : X.calm = true) (hg : Gl X "all") (hm : X.mg "all" = none) (ha : PEs X W a fa) (hs : PySem.starEach [a] X.env = (false, PySem.eval a X.env) :: PySem.starEach [] X.env := by rfl) (hpl : (PySem.backTo pos (PySem.starEach [] X.env)).any (·.1) = false := by rfl) :
    PEs X W (.Call (.Name "all" p) [a] [] pos) (e1 fAllB fa) :=
  PE.weak (pe_callB (cr_all hc) hg hm (by decide +kernel) (pa_cons ha pa_nil hs) (by decide) (by decide) hs hpl) (c1_cut fun w w0 h x z vx Q R qx e k => by
    unfold fAllB at e
    cases hl : lookL h x with
    | none => rw [hl] at e; cases e
    | some xs =>
      rw [hl] at e
      dsimp only at e
      cases hs : boolsOf xs with
      | none => rw [hs] at e; cases e
      | some bs =>
        rw [hs] at e
        cases e
        obtain ⟨q, ys, e1, e2, e3⟩ := lookL_ok R qx hl
        rw [bools_rel hs e3] at e2
        subst e1
        exact ⟨q, bs, rfl, .inl (Rd.of e2), k w _ (Le.refl w) R rfl⟩)
end
theorem st_isN {X : Cx} {W : WX} {a : Expr} {fa : E} {pos : Pos} {j : Nat} {p : Pos} (ha : PEs X W a fa) : PTs' X W (.Compare a [.Is] [.Constant .none j p] pos) (tB (e1 (fNone false) fa)) :=
  PT.weak (pt_cmp (pc_isN ha)) fun σ H Q k0 => by
    obtain ⟨w, r, h, e, R, k⟩ := tB_cut σ H Q k0
    subst e
    refine ⟨w, r, h, rfl, R, EK.cut (fun x h1 w1 v1 l1 R1 q1 k1 => ?_) k⟩
    obtain ⟨z, ez, kz⟩ := opt_cut k1
    rw [none_res q1]
    unfold fNone at ez
    split at ez
    · cases ez
      exact kz w1 _ (Le.refl w1) R1 rfl
    · rename_i hx
      cases ez
      cases x with
      | own vs => exact kz w1 _ (Le.refl w1) R1 rfl
      | view vs => exact kz w1 _ (Le.refl w1) R1 rfl
      | v x => cases x <;> first | exact absurd rfl hx | exact kz w1 _ (Le.refl w1) R1 rfl
theorem st_notN {X : Cx} {W : WX} {a : Expr} {fa : E} {pos : Pos} {j : Nat} {p : Pos} (ha : PEs X W a fa) : PTs' X W (.Compare a [.IsNot] [.Constant .none j p] pos) (tB (e1 (fNone true) fa)) :=
  PT.weak (pt_cmp (pc_notN ha)) fun σ H Q k0 => by
    obtain ⟨w, r, h, e, R, k⟩ := tB_cut σ H Q k0
    subst e
    refine ⟨w, r, h, rfl, R, EK.cut (fun x h1 w1 v1 l1 R1 q1 k1 => ?_) k⟩
    obtain ⟨z, ez, kz⟩ := opt_cut k1
    rw [none_res q1]
    unfold fNone at ez
    split at ez
    · cases ez
      exact kz w1 _ (Le.refl w1) R1 rfl
    · rename_i hx
      cases ez
      cases x with
      | own vs => exact kz w1 _ (Le.refl w1) R1 rfl
      | view vs => exact kz w1 _ (Le.refl w1) R1 rfl
      | v x => cases x <;> first | exact absurd rfl hx | exact kz w1 _ (Le.refl w1) R1 rfl
theorem kv_str {K : Frag} {x : Str} {t : PySem.Tok} : KV K (.str x) (.str x t) := ⟨.str x, ⟨t, rfl⟩, fun _ => rfl⟩
end SM

/-! SMIt: texts that are walked, beside lists and tuples. -/
namespace SM
open PySem (Str Expr Stmt Pos Operator CmpOp)
open L2 hiding St tB tAnd tOr tNot tYes iRng1 iRng2 iRng3
def chV (c : Nat) : Val := .str ⟨#[c]⟩
def chars (z : Str) : List Val := z.cps.toList.map chV
def iOfS (sq : Heap → RV → Option (Bool × List Val × List Nat)) (a : E) : I := fun r h => (a r h).bind fun x h1 => match x with
  | .v (.str z) => .ok (chars z, []) h1
  | x => match sq h1 x with
    | some (_, xs, dep) => .ok (xs, dep) h1
    | none => .no
abbrev iSeqS : E → I := iOfS seqV
abbrev iSeqES : E → I := iOfS seqE
def iAnyS (K : Frag) (tl : TE) : TI := fun σ H R => tl σ H fun x H1 => (∃ a t, x = .ref a ∧ (∃ xs, SMZ.SqK t K H1 a xs) ∧ R (if t then Itt K a else Itl K a) H1) ∨ ∃ z, x = .str z ∧ R (Its z) H1
open PySem in
theorem pi_anyS {X : Cx} {tg : Expr} {l : Expr} {tl : TE} (hl : PE X l tl) : PI X tg l (iAnyS X.K tl) := by
  refine ⟨fun pins s σ H R Iv hw => thn (hl.run pins s σ H _ Iv hw) fun v s1 ⟨x, H1, I1, r1, o⟩ => ?_⟩
  rcases o with ⟨a, t, ex, ⟨xs, hq⟩, q⟩ | ⟨z, ex, q⟩
  · subst ex
    cases r1
    have fresh1 : ∀ b ∈ [s1.heap.objs.size], FpOk X pins H1 b := fun b hb => by
      have eb : b = s1.heap.objs.size := by simpa using hb
      rw [eb]
      exact I1.fpOk (Nat.le_refl _) (I1.hok.fresh (Nat.le_refl _))
    cases t with
    | false =>
      obtain ⟨its, rv, p, hz⟩ := I1.list hq
      exact wpAny_pyIter_list p.isList ⟨s1.heap.objs.size, [s1.heap.objs.size], _, _, H1, rfl, I1.kept (t' := s1.toks) fun b o e => Heap.get?_push_of_some _ e, turn_list a _, ⟨_, Heap.get?_push_size _ rfl, rfl, rfl⟩, fresh1, q⟩
    | true =>
      obtain ⟨its, rv, p, hz⟩ := I1.tuple hq
      exact wpAny_pyIter_tuple p ⟨s1.heap.objs.size, [s1.heap.objs.size], _, _, H1, rfl, I1.kept (t' := s1.toks) fun b o e => Heap.get?_push_of_some _ e, turn_tuple a _, ⟨_, Heap.get?_push_size _ rfl, rfl, rfl⟩, fresh1, q⟩
  · subst ex
    obtain ⟨t, rfl⟩ := r1
    cases ha : z.cps.all (· < 128)
    · exact wpAny_pyIter_wide ha (pi_one (tk := s1.toks) I1 _ (turn_str _ z t "str_iterator" (.inr rfl)) ⟨_, Heap.get?_push_size _ rfl, rfl, rfl⟩ q)
    · exact wpAny_pyIter_ascii ha (pi_one (tk := s1.toks) I1 _ (turn_str _ z t "str_ascii_iterator" (.inl rfl)) ⟨_, Heap.get?_push_size _ rfl, rfl, rfl⟩ q)
section
variable {K : Frag} {mg : Mg} {w : Rw} {h : Heap} {ow : Addr → Prop}
theorem wk_str {z : Str} : Wk K mg ow w h (Its z) (chars z) [] := fun w2 h2 l R2 _ => by
  have hl : (chars z).length = z.cps.size := by unfold chars; rw [List.length_map, Array.length_toList]
  rw [hl]
  refine ⟨fun i hi => hi, Nat.le_refl _, fun i x H' hi ⟨e, c, hc, y⟩ => ?_⟩
  subst y
  refine ⟨w2, chV c, e.symm, Le.refl w2, R2, ?_, rfl⟩
  unfold chars
  rw [List.getElem?_map, Array.getElem?_toList, hc]
  rfl
end
section
variable {X : Cx} {W : WX} {a tg : Expr} {fa : E}
theorem i_seqS (ha : PEs X W a fa) : PIs X W tg a (iSeqS fa) := PI.weak (pi_anyS ha) fun σ H R ⟨w, r, h, e, Rr, k⟩ => by
  subst e
  refine ⟨w, r, h, rfl, Rr, EK.cutI (fun x h1 w1 v1 l1 R1 q1 k1 => ?_) k⟩
  split at k1
  · exact .inr ⟨_, q1, k1 w1 _ l1 R1 wk_str⟩
  · split at k1
    · rename_i t xs dep hs
      obtain ⟨a, ea, st⟩ := seqSt_e R1 (owns_P (Rr.le l1 R1)) (owns_some Rr) q1 hs
      obtain ⟨ys, s, _⟩ := st w1 h1 LeS.refl R1 fun _ _ => rfl
      exact .inl ⟨a, t, ea, ⟨ys, s⟩, k1 w1 _ l1 R1 (wk_seq st)⟩
    · exact k1.elim
theorem i_seqES (ha : PEs X W a fa) : PIe X W tg a (iSeqES fa) := PI.weak (pi_anyS ha) fun σ H R ⟨w, r, h, e, Rr, k⟩ => by
  subst e
  refine ⟨w, r, h, rfl, Rr, EK.cutI (fun x h1 w1 v1 l1 R1 q1 k1 => ?_) k⟩
  split at k1
  · exact .inr ⟨_, q1, k1 w1 _ l1 R1 wk_str⟩
  · split at k1
    · rename_i t xs dep hs
      obtain ⟨a, ea, st⟩ := seqSt_E R1 q1 hs
      obtain ⟨ys, s, _⟩ := st w1 h1 LeS.refl R1 fun _ _ => rfl
      exact .inl ⟨a, t, ea, ⟨ys, s⟩, k1 w1 _ l1 R1 (wk_seq st)⟩
    · exact k1.elim
end
end SM

/-! SMTxt: small steps for texts; saved texts. -/
namespace SM
open PySem (Str)
/-! ### small steps -/
noncomputable def smj (f : Str → F1) (s : Str) : RV → Heap → EO RV := fun y h2 => opt (f s h2 y) h2
theorem q_eSm {f : Str → F1} {a b : E} {r : Env} {h : Heap} : eSm f a b r h = (a r h).bind (sm1K f b r) := (Eq.refl _).trans (Eq.refl _)
theorem q_sm1K {f : Str → F1} {b : E} {r : Env} {s : Str} {h : Heap} : sm1K f b r (.v (.str s)) h = (b r h).bind (smj f s) := (Eq.refl _).trans (Eq.refl _)
theorem q_smj {f : Str → F1} {s : Str} {y : RV} {h : Heap} : smj f s y h = opt (f s h y) h := (Eq.refl _).trans (Eq.refl _)
noncomputable def raK (x : Str) (r : Env) : EO RV → SO := fun o => match o with
  | .ok (.v v) h1 => .ex ⟨x, [v]⟩ r h1
  | _ => .no
theorem q_sRaiseAt {x : Str} {fe : E} {r : Env} {h : Heap} : sRaiseAt x fe r h = raK x r (fe r h) := by unfold sRaiseAt raK; rfl
theorem q_raK {x : Str} {r : Env} {v : Val} {h : Heap} : raK x r (.ok (.v v) h) = .ex ⟨x, [v]⟩ r h := (Eq.refl _).trans (Eq.refl _)
noncomputable def isK (sq : Heap → RV → Option (Bool × List Val × List Nat)) : RV → Heap → EO (List Val × List Nat) := fun x h1 => match x with
  | .v (.str z) => .ok (chars z, []) h1
  | x => match sq h1 x with
    | some (_, xs, dep) => .ok (xs, dep) h1
    | none => .no
theorem q_iOfS {sq : Heap → RV → Option (Bool × List Val × List Nat)} {a : E} {r : Env} {h : Heap} : iOfS sq a r h = (a r h).bind (isK sq) := by unfold iOfS isK; rfl
theorem q_isS {sq : Heap → RV → Option (Bool × List Val × List Nat)} {z : Str} {h : Heap} : isK sq (.v (.str z)) h = .ok (chars z, []) h := (Eq.refl _).trans (Eq.refl _)
theorem q_isT {sq : Heap → RV → Option (Bool × List Val × List Nat)} {z : List Val} {h : Heap} {d : List Nat} {t : Bool} (e : sq h (.v (.tup z)) = some (t, z, d)) : isK sq (.v (.tup z)) h = .ok (z, d) h := by unfold isK; dsimp only; rw [e]
theorem q_ioE_r {xs : List Val} {h : Heap} : iok seqE (.v (.ro xs)) h = .ok (xs, []) h := (Eq.refl _).trans (Eq.refl _)
theorem q_ioE_t {xs : List Val} {h : Heap} : iok seqE (.v (.tup xs)) h = .ok (xs, []) h := (Eq.refl _).trans (Eq.refl _)
theorem q_ioE_o {xs : List Val} {h : Heap} : iok seqE (.own xs) h = .ok (xs, []) h := (Eq.refl _).trans (Eq.refl _)
theorem q_ioE_w {xs : List Val} {h : Heap} : iok seqE (.view xs) h = .ok (xs, []) h := (Eq.refl _).trans (Eq.refl _)
theorem q_ioE_s {xs : List Val} {h : Heap} : iok seqE (.v (.scr xs)) h = .ok (xs, []) h := (Eq.refl _).trans (Eq.refl _)
theorem q_ioV_r {xs : List Val} {h : Heap} : iok seqV (.v (.ro xs)) h = .ok (xs, []) h := (Eq.refl _).trans (Eq.refl _)
theorem q_ioV_t {xs : List Val} {h : Heap} : iok seqV (.v (.tup xs)) h = .ok (xs, []) h := (Eq.refl _).trans (Eq.refl _)
theorem q_ioV_o {xs : List Val} {h : Heap} : iok seqV (.own xs) h = .ok (xs, []) h := (Eq.refl _).trans (Eq.refl _)
theorem q_ioV_s {xs : List Val} {h : Heap} : iok seqV (.v (.scr xs)) h = .ok (xs, []) h := (Eq.refl _).trans (Eq.refl _)
def ioH (n : Nat) (h : Heap) : Option HObj → EO (List Val × List Nat) := fun o => match o with
  | some (.lst xs) => .ok (xs, [n]) h
  | _ => .no
theorem q_ioV_h {n : Nat} {h : Heap} : iok seqV (.v (.obj n)) h = ioH n h h[n]? := by
  show ioj h (seqV h (.v (.obj n))) = _
  unfold seqV ioH
  dsimp only
  cases h[n]? with
  | none => rfl
  | some o => cases o <;> rfl
theorem q_ioE_h {n : Nat} {h : Heap} : iok seqE (.v (.obj n)) h = ioH n h h[n]? := q_ioV_h
theorem q_ioH {n : Nat} {h : Heap} {xs : List Val} : ioH n h (some (.lst xs)) = .ok (xs, [n]) h := (Eq.refl _).trans (Eq.refl _)
theorem is_str_s {x : Str} {h : Heap} : fIs "str" h (.v (.str x)) = some (.v (.bool true)) := (Eq.refl _).trans (Eq.refl _)
theorem is_str_i {x : Int} {h : Heap} : fIs "str" h (.v (.int x)) = some (.v (.bool false)) := (Eq.refl _).trans (Eq.refl _)
theorem is_str_N {h : Heap} : fIs "str" h (.v .none) = some (.v (.bool false)) := (Eq.refl _).trans (Eq.refl _)
theorem is_str_t {x : List Val} {h : Heap} : fIs "str" h (.v (.tup x)) = some (.v (.bool false)) := (Eq.refl _).trans (Eq.refl _)
theorem is_str_r {x : List Val} {h : Heap} : fIs "str" h (.v (.ro x)) = some (.v (.bool false)) := (Eq.refl _).trans (Eq.refl _)
theorem is_str_b {x : Bool} {h : Heap} : fIs "str" h (.v (.bool x)) = some (.v (.bool false)) := (Eq.refl _).trans (Eq.refl _)
/-! ### words -/
abbrev tl (x : Str) : List Nat := x.cps.toList
theorem len_tl (x : Str) : x.length = (tl x).length := Array.length_toList.symm
abbrev numS (n : Nat) : Str := Str.ofString (toString ((n : Nat) : Int))
theorem tl_numS (n : Nat) : tl (numS n) = TL.numL n := TL.tl_num n
theorem numS_len {n : Nat} (h : n < 10 ^ 40) : (numS n).length ≤ 40 := by
  rw [len_tl, tl_numS]
  exact TL.numL_len (by decide) h
theorem numS_int {n : Nat} (h : n < 10 ^ 40) : PySem.intText? (numS n) = some (n : Int) := TL.int_num (by
  have := TL.numL_len (k := 40) (by decide) h
  omega)
theorem log_small {n : Nat} (h : n < 10 ^ 40) : ((n : Int)).natAbs.log2 < 1920 := by
  have e : ((n : Int)).natAbs = n := rfl
  rw [e]
  by_cases c : n = 0
  · subst c
    decide
  · have : n.log2 < 140 := (Nat.log2_lt c).mpr (Nat.lt_trans h (by decide))
    omega
theorem str_n {n : Nat} {h : Heap} (hn : n < 10 ^ 40) : fStr h (.v (.int (n : Int))) = some (.v (.str (numS n))) := by
  unfold fStr
  dsimp only
  rw [if_pos (log_small hn)]
theorem str_s {h : Heap} {a : Str} : fStr h (.v (.str a)) = some (.v (.str a)) := (Eq.refl _).trans (Eq.refl _)
theorem intS_n {n : Nat} {h : Heap} (hn : n < 10 ^ 40) : fIntS h (.v (.str (numS n))) = some (.v (.int (n : Int))) := by
  unfold fIntS
  dsimp only
  have := numS_len hn
  rw [if_pos (by omega), numS_int hn]
  rfl
/-- a word of a saved text -/
inductive Wd : Val → Str → Prop where
  | num (n : Nat) (h : n < 10 ^ 40) : Wd (.int (n : Int)) (numS n)
  | nam (x : Str) (h : x.length ≤ 40) (g : 32 ∉ tl x) : Wd (.str x) x
theorem Wd.str {v : Val} {x : Str} (w : Wd v x) (h : Heap) : fStr h (.v v) = some (.v (.str x)) := by
  cases w with
  | num n hn => exact str_n hn
  | nam x _ _ => exact str_s
theorem Wd.len {v : Val} {x : Str} (w : Wd v x) : x.length ≤ 40 := by
  cases w with
  | num n hn => exact numS_len hn
  | nam x h _ => exact h
theorem num_free (n : Nat) : 32 ∉ tl (numS n) := by
  rw [tl_numS]
  exact TL.numL_free (.inl (by decide))
theorem Wd.free {v : Val} {x : Str} (w : Wd v x) : 32 ∉ tl x := by
  cases w with
  | num n _ => exact num_free n
  | nam x _ g => exact g
/-- values and their words -/
inductive Wds : List Val → List Str → Prop where
  | nil : Wds [] []
  | cons {v : Val} {x : Str} {vs : List Val} {xs : List Str} (h : Wd v x) (t : Wds vs xs) : Wds (v :: vs) (x :: xs)
theorem Wds.app {vs us : List Val} {xs ys : List Str} (a : Wds vs xs) (b : Wds us ys) : Wds (vs ++ us) (xs ++ ys) := by
  induction a with
  | nil => exact b
  | cons h t ih => exact .cons h ih
theorem Wds.nats : ∀ {ns : List Nat}, (∀ n, n ∈ ns → n < 10 ^ 40) → Wds (vNats ns) (ns.map numS)
  | [], _ => .nil
  | n :: ns, h => .cons (.num n (h n List.mem_cons_self)) (Wds.nats fun m hm => h m (List.mem_cons_of_mem _ hm))
theorem Wds.len {vs : List Val} {xs : List Str} (a : Wds vs xs) : xs.length = vs.length := by
  induction a with
  | nil => rfl
  | cons h t ih => rw [List.length_cons, List.length_cons, ih]
theorem Wds.free {vs : List Val} {xs : List Str} (a : Wds vs xs) : ∀ x, x ∈ xs → 32 ∉ tl x ∧ x.length ≤ 40 := by
  induction a with
  | nil => exact fun x hx => nomatch hx
  | cons h t ih =>
    intro x hx
    rcases List.mem_cons.mp hx with e | e
    · rw [e]; exact ⟨h.free, h.len⟩
    · exact ih x e
abbrev vStrs (xs : List Str) : List Val := xs.map Val.str
theorem strs_len {xs : List Str} : (vStrs xs).length = xs.length := List.length_map _
theorem strsOf_map : ∀ xs : List Str, strsOf (vStrs xs) = some xs
  | [] => rfl
  | x :: xs => by
    show (strsOf (vStrs xs)).map (x :: ·) = _
    rw [strsOf_map xs]
    rfl
theorem sum_le {xs : List Str} {k : Nat} (h : ∀ x, x ∈ xs → x.length ≤ k) : (xs.map (·.length)).sum ≤ xs.length * k := by
  induction xs with
  | nil => exact Nat.zero_le _
  | cons x xs ih =>
    have := ih fun y hy => h y (List.mem_cons_of_mem _ hy)
    have := h x List.mem_cons_self
    rw [List.map_cons, List.sum_cons, List.length_cons, Nat.add_mul]
    omega
/-- the text of words -/
def txt (xs : List Str) : Str := PySem.Txt.join " " xs
theorem join_w {h : Heap} {y : RV} {xs : List Str} (e : look h y = some (false, vStrs xs)) (hl : xs.length ≤ 400000) (hx : ∀ x, x ∈ xs → x.length ≤ 40) : fJoin " " h y = some (.v (.str (txt xs))) := by
  unfold fJoin
  rw [e]
  dsimp only
  rw [strsOf_map]
  dsimp only
  rw [if_pos]
  · rfl
  · have := sum_le hx
    have l1 : (" " : Str).length = 1 := by decide +kernel
    rw [l1]
    omega
theorem join_len {xs : List Str} : xs ≠ [] → (PySem.Txt.join (" " : Str) xs).length + 1 = (xs.map (·.length)).sum + xs.length := by
  rw [TL.join_eq]
  have sp : tl (" " : Str) = [32] := by decide +kernel
  rw [len_tl, show tl (PySem.Str.join " " xs) = TL.joinL (tl (" " : Str)) (xs.map tl) from TL.tl_join _ _, sp]
  induction xs with
  | nil => exact fun h => absurd rfl h
  | cons x xs ih =>
    intro _
    cases xs with
    | nil =>
      show (tl x).length + 1 = x.length + 0 + 1
      rw [len_tl]
    | cons z zs =>
      have ih := ih (fun h => nomatch h)
      show (tl x ++ ([32] ++ TL.joinL [32] ((z :: zs).map tl))).length + 1 = _
      rw [List.length_append, List.length_append]
      rw [show ((x :: z :: zs).map (·.length)).sum = (tl x).length + ((z :: zs).map (·.length)).sum from by rw [List.map_cons, List.sum_cons, len_tl x], show (x :: z :: zs).length = (z :: zs).length + 1 from rfl]
      have : ([32] : List Nat).length = 1 := rfl
      omega
theorem split_w {h : Heap} {xs : List Str} (hn : xs ≠ []) (hl : xs.length ≤ 400000) (hx : ∀ x, x ∈ xs → 32 ∉ tl x ∧ x.length ≤ 40) : fSplit (txt xs) h (.v (.str " ")) = some (.own (vStrs xs)) := by
  unfold fSplit
  dsimp only
  have l1 : (((" " : Str).length == 0) = false) := by decide +kernel
  have l2 : (txt xs).length + 2 ≤ PySem.sizeLine := by
    have := join_len hn
    have := sum_le (k := 40) fun x hh => (hx x hh).2
    have e : PySem.sizeLine = 16777216 := rfl
    rw [e]
    unfold txt
    omega
  rw [if_pos ⟨l1, l2⟩]
  unfold txt
  rw [TL.split_join (s := 32) (S := []) (by decide +kernel) (by decide +kernel) hn fun p hp => (hx p hp).1]
end SM
namespace SM
open PySem (Str)
/-! ### words of numbers, more -/
def wrd : Val → Val
  | .int i => .str (Str.ofString (toString i))
  | x => x
theorem Wd.wrd {v : Val} {x : Str} (w : Wd v x) : SM.wrd v = .str x := by
  cases w with
  | num n h => rfl
  | nam x _ _ => rfl
theorem Wds.map {vs : List Val} {xs : List Str} (a : Wds vs xs) : vs.map wrd = vStrs xs := by
  induction a with
  | nil => rfl
  | cons h t ih => rw [List.map_cons, ih, h.wrd]; rfl
theorem Wds.mem {vs : List Val} {xs : List Str} (a : Wds vs xs) {v : Val} (hv : v ∈ vs) : ∃ x, Wd v x ∧ wrd v = .str x := by
  induction a with
  | nil => cases hv
  | cons h t ih =>
    rcases List.mem_cons.mp hv with e | e
    · rw [e]; exact ⟨_, h, h.wrd⟩
    · exact ih e
theorem in_dig {h : Heap} {c : Nat} (hc : 48 ≤ c ∧ c ≤ 57) : fIn false h (.v (chV c)) (.v (.str "0123456789")) = some (.v (.bool true)) := by
  have e : ("0123456789" : Str).cps.toList = [48, 49, 50, 51, 52, 53, 54, 55, 56, 57] := by decide +kernel
  show some (RV.v (.bool (decide (c ∈ ("0123456789" : Str).cps.toList)))) = _
  rw [e, decide_eq_true]
  simp only [List.mem_cons, List.not_mem_nil, or_false]
  omega
theorem all_true {h : Heap} {α : Type} {l : List α} : fAllB h (.own (l.map fun _ => Val.bool true)) = some (.v (.bool true)) := by
  have e : boolsOf (l.map fun _ => Val.bool true) = some (l.map fun _ => true) := by
    induction l with
    | nil => rfl
    | cons x xs ih =>
      show (boolsOf (xs.map fun _ => Val.bool true)).map (true :: ·) = _
      rw [ih]
      rfl
  show (match boolsOf (l.map fun _ => Val.bool true) with
    | some bs => some (RV.v (.bool (bs.all id)))
    | none => none) = _
  rw [e]
  dsimp only
  have : (l.map fun _ => true).all id = true := by
    rw [List.all_eq_true]
    intro x hx
    obtain ⟨_, _, rfl⟩ := List.mem_map.mp hx
    rfl
  rw [this]
theorem num_strOk (n : Nat) : PySem.PyData.strOk (numS n) = true := by
  unfold PySem.PyData.strOk
  rw [← Array.all_toList, List.all_eq_true]
  intro c hc
  rw [show (numS n).cps.toList = TL.numL n from tl_numS n] at hc
  have := TL.numL_digits n c hc
  exact decide_eq_true (by omega)
theorem num_strOk1 {n c : Nat} {r : List Nat} (e : tl (numS n) = c :: r) : PySem.PyData.strOk (⟨#[c]⟩ : Str) = true := by
  unfold PySem.PyData.strOk
  rw [← Array.all_toList, List.all_eq_true]
  intro d hd
  have e2 : d = c := List.mem_singleton.mp hd
  rw [tl_numS] at e
  have := TL.numL_digits n c (by rw [e]; exact List.mem_cons_self)
  exact decide_eq_true (by omega)
theorem numS_pos (n : Nat) : 0 < (numS n).length := by
  rw [len_tl, tl_numS]
  exact List.length_pos_iff.mpr (TL.numL_ne n)
theorem numL_head {n : Nat} (h : n ≠ 0) : ∃ c r, TL.numL n = c :: r ∧ c ≠ 48 := by
  induction n using Nat.strongRecOn with
  | _ n ih =>
    by_cases c : n < 10
    · exact ⟨48 + n, [], TL.numL_lt c, by omega⟩
    · obtain ⟨d, r, e, z⟩ := ih (n / 10) (by omega) (by omega)
      exact ⟨d, r ++ [48 + n % 10], by rw [TL.numL_step (by omega), e]; rfl, z⟩
theorem numS_head {n : Nat} (h : n ≠ 0) : ∃ c r, tl (numS n) = c :: r ∧ c ≠ 48 := by
  rw [tl_numS]
  exact numL_head h
theorem len_s {x : Str} (hl : x.length ≤ 16777216) {h : Heap} : fLen h (.v (.str x)) = some (.v (.int ((x.length : Nat) : Int))) := by
  unfold fLen
  exact if_pos hl
theorem drop_get {α : Type} {l : List α} {i : Nat} {x : α} {rs : List α} (h : l.drop i = x :: rs) : i < l.length ∧ l[i]? = some x := by
  have e : (l.drop i)[0]? = some x := by rw [h]; rfl
  rw [List.getElem?_drop, Nat.add_zero] at e
  exact ⟨(List.getElem?_eq_some_iff.mp e).1, e⟩
theorem set_same {α : Type} {l : List α} {n : Nat} {x : α} (h : l[n]? = some x) : l.set n x = l := by
  apply List.ext_getElem?
  intro j
  rw [List.getElem?_set]
  by_cases e : n = j
  · subst e
    rw [if_pos rfl, h]
    have := (List.getElem?_eq_some_iff.mp h).1
    rw [if_pos this]
  · rw [if_neg e]
end SM

namespace SM
/-- a loop that leaves the heap as it is -/
theorem for_same {g : Tg} {it : I} {b : S} {r : Env} {h h1 : Heap} {xs : List Val} {dep : List Nat} (P : Nat → Env → Prop) (hi : it r h = .ok (xs, dep) h1) (p : P 0 r)
    (st : ∀ (k : Nat) (x : Val) (r : Env), xs[k]? = some x → P k r → ∃ r1, g.put x r = some r1 ∧ ∃ r2, (b r1 h1 = .nx r2 h1 ∨ b r1 h1 = .ct r2 h1) ∧ P (k + 1) r2) :
    ∃ r2, sFor g it b r h = .nx r2 h1 ∧ P xs.length r2 := by
  obtain ⟨r2, h2, e, p2, p3⟩ := forL_ok (dep := dep) (h0 := h1) (g := g) (b := b) (P := fun k r h => P k r ∧ h = h1) (fun _ _ _ p => by rw [p.2]; exact Same.refl _ _) xs 0 r h1 ⟨p, rfl⟩ fun k x r h hk ⟨q1, q2⟩ => by
    subst q2
    rw [Nat.zero_add] at q1 ⊢
    obtain ⟨r1, e1, r2, e2, q⟩ := st k x r hk q1
    exact ⟨r1, e1, r2, _, e2, q, rfl⟩
  subst p3
  rw [Nat.zero_add] at p2
  refine ⟨r2, ?_, p2⟩
  unfold sFor
  rw [hi]
  exact e
theorem fin_up {h h' : Heap} {x : RV} (hx : ¬ x.under h.length) : fin h (.rt x h') = .ok x h' := by
  unfold fin
  dsimp only
  rw [if_neg fun z => hx z.2]
theorem under_obj {n k : Nat} (h : n ≤ k) : ¬ (RV.v (.obj k)).under n := fun z => by
  unfold RV.under Val.under at z
  omega
end SM
namespace SM
theorem get_p2 {α : Type} {h r : List α} {a b c : α} : (h ++ a :: b :: c :: r)[h.length + 1 + 1]? = some c := by
  rw [List.getElem?_append_right (by omega), show h.length + 1 + 1 - h.length = 2 by omega]
  rfl
theorem set_p2 {α : Type} {h r : List α} {a b c y : α} : (h ++ a :: b :: c :: r).set (h.length + 1 + 1) y = h ++ a :: b :: y :: r := by
  rw [List.set_append_right _ _ (by omega), show h.length + 1 + 1 - h.length = 2 by omega]
  rfl
end SM
namespace SM
/-- a comprehension that keeps nothing -/
theorem lc_noneGo {g : Tg} {c : T} {e : E} {r : Env} {dep : List Nat} {h : Heap} : ∀ (xs : List Val), (∀ x, x ∈ xs → ∃ r1, g.put x r = some r1 ∧ c r1 h = .ok false h) → ∀ acc, lcGo g c e r dep h xs acc h = .ok (.own acc) h
  | [], _, acc => chkE_same _ _ _
  | x :: xs, st, acc => by
    obtain ⟨r1, e1, e2⟩ := st x List.mem_cons_self
    have ih := lc_noneGo (dep := dep) (e := e) xs (fun y hy => st y (List.mem_cons_of_mem _ hy)) acc
    show chkE dep h h _ = _
    rw [chkE_same, e1]
    show (match c r1 h with
      | .ok true h1 => match e r1 h1 with
        | .ok y h2 => match y.keep with
          | some z => lcGo g c e r dep h xs (acc ++ [z]) h2
          | none => .no
        | _ => .no
      | .ok false h1 => lcGo g c e r dep h xs acc h1
      | _ => .no) = _
    rw [e2]
    exact ih
theorem lc_none {own : List Nat} {g : Tg} {it : I} {c : T} {e : E} {r : Env} {h h1 : Heap} {xs : List Val} {dep : List Nat} (hi : it r h = .ok (xs, dep) h1) (hz : xs.length ≤ line)
    (st : ∀ x, x ∈ xs → ∃ r1, g.put x (wipeE r own) = some r1 ∧ c r1 h1 = .ok false h1) : eLc own g it c e r h = .ok (.own []) h1 := by
  unfold eLc
  rw [hi]
  exact (if_pos hz).trans (lc_noneGo xs st [])
end SM

/-! SMTx2: more for texts and comprehensions. -/
namespace SM
open PySem (Str)
/-- a comprehension of numbers with a test -/
theorem lc_natFGo {s : Nat} {c : T} {e : E} {r : Env} {dep : List Nat} {h : Heap} (C : Nat → Bool) : ∀ (ns : List Nat), (∀ i : Nat, i ∈ ns → c (r.set s (some (.v (.int (i : Int))))) h = .ok (C i) h) → (∀ i : Nat, i ∈ ns → C i = true → e (r.set s (some (.v (.int (i : Int))))) h = .ok (.v (.int (i : Int))) h) →
    ∀ acc, lcGo (.nm s) c e r dep h (vNats ns) acc h = .ok (.own (acc ++ vNats (ns.filter C))) h
  | [], _, _, acc => by
    show chkE dep h h _ = _
    rw [chkE_same, List.filter_nil, show vNats [] = [] from rfl, List.append_nil]
  | i :: ns, sc, se, acc => by
    have ih := lc_natFGo (dep := dep) (e := e) C ns (fun j hj => sc j (List.mem_cons_of_mem _ hj)) (fun j hj => se j (List.mem_cons_of_mem _ hj))
    show chkE dep h h (match c (r.set s (some (.v (.int (i : Int))))) h with
      | .ok true h1 => match e (r.set s (some (.v (.int (i : Int))))) h1 with
        | .ok y h2 => match y.keep with
          | some z => lcGo (.nm s) c e r dep h (vNats ns) (acc ++ [z]) h2
          | none => .no
        | _ => .no
      | .ok false h1 => lcGo (.nm s) c e r dep h (vNats ns) acc h1
      | _ => .no) = _
    rw [chkE_same, sc i List.mem_cons_self]
    cases hC : C i with
    | true =>
      dsimp only
      rw [se i List.mem_cons_self hC]
      show lcGo (.nm s) c e r dep h (vNats ns) (acc ++ [.int (i : Int)]) h = _
      rw [ih, List.filter_cons_of_pos hC, List.append_assoc]
      rfl
    | false =>
      dsimp only
      rw [ih, List.filter_cons_of_neg (by rw [hC]; exact Bool.false_ne_true)]
theorem lc_natF {own : List Nat} {s : Nat} {it : I} {c : T} {e : E} {r : Env} {h h1 : Heap} {ns : List Nat} {dep : List Nat} (C : Nat → Bool) (hi : it r h = .ok (vNats ns, dep) h1) (hz : ns.length ≤ line)
    (sc : ∀ i : Nat, i ∈ ns → c ((wipeE r own).set s (some (.v (.int (i : Int))))) h1 = .ok (C i) h1) (se : ∀ i : Nat, i ∈ ns → C i = true → e ((wipeE r own).set s (some (.v (.int (i : Int))))) h1 = .ok (.v (.int (i : Int))) h1) :
    eLc own (.nm s) it c e r h = .ok (.own (vNats (ns.filter C))) h1 := by
  unfold eLc
  rw [hi]
  exact (if_pos (by rw [nats_len]; exact hz)).trans (lc_natFGo C ns sc se [])
/-- a text's signs are signs -/
theorem txt_strOk {xs : List Str} (h : ∀ x, x ∈ xs → PySem.PyData.strOk x = true) : PySem.PyData.strOk (txt xs) = true := by
  have key : ∀ c, c ∈ tl (txt xs) → c < 0x110000 := by
    unfold txt
    rw [TL.join_eq, show tl (PySem.Str.join " " xs) = TL.joinL (tl (" " : Str)) (xs.map tl) from TL.tl_join _ _, show tl (" " : Str) = [32] by decide +kernel]
    induction xs with
    | nil => exact fun c hc => nomatch hc
    | cons x xs ih =>
      have hx : ∀ c, c ∈ tl x → c < 0x110000 := fun c hc => by
        have := h x List.mem_cons_self
        unfold PySem.PyData.strOk at this
        rw [← Array.all_toList, List.all_eq_true] at this
        exact of_decide_eq_true (this c hc)
      have ih := ih fun y hy => h y (List.mem_cons_of_mem _ hy)
      cases xs with
      | nil => exact hx
      | cons z zs =>
        intro c hc
        have hc : c ∈ tl x ++ ([32] ++ TL.joinL [32] ((z :: zs).map tl)) := hc
        rcases List.mem_append.mp hc with q | q
        · exact hx c q
        · rcases List.mem_append.mp q with q | q
          · rw [List.mem_singleton.mp q]; decide
          · exact ih c q
  unfold PySem.PyData.strOk
  rw [← Array.all_toList, List.all_eq_true]
  exact fun c hc => decide_eq_true (key c hc)
theorem Wds.strOk {vs : List Val} {xs : List Str} (a : Wds vs xs) (g : ∀ v x, v ∈ vs → v = .str x → PySem.PyData.strOk x = true) : ∀ x, x ∈ xs → PySem.PyData.strOk x = true := by
  induction a with
  | nil => exact fun x hx => nomatch hx
  | cons h t ih =>
    intro x hx
    rcases List.mem_cons.mp hx with e | e
    · subst e
      cases h with
      | num n _ => exact num_strOk n
      | nam x _ _ => exact g _ x List.mem_cons_self rfl
    · exact ih (fun v x hv e => g v x (List.mem_cons_of_mem _ hv) e) x e
end SM

/-! SMTup: a tuple times a number, long ones too. -/
namespace SM
open PySem (Str Expr Stmt Pos Operator CmpOp)
open L2 hiding St tB tAnd tOr tNot tYes iRng1 iRng2 iRng3
def rMulT (K : Frag) : R2 := fun x y H Q => ∃ (l : Addr) (k : Int) (xs : List V), x = .ref l ∧ y = .int k ∧ SqT K H l xs ∧ xs ≠ [] ∧ 2 ≤ k ∧ k ≤ 1000000 ∧ k.toNat * xs.length ≤ 1000000 ∧ ∀ p, H p = none → Q (.ref p) (upd H p (.tup (List.replicate k.toNat xs).flatten))
theorem op_mulT {X : Cx} : OpR X (PySem.binaryOp .Mult) (rMulT X.K) := by
  intro pins s σ H x y v u Q I rx ry ⟨l, k, xs, ex, ey, hT, hne, k2, kB, hB, q⟩
  subst ex ey
  cases rx
  obtain ⟨t, rfl⟩ := ry
  obtain ⟨its, r, ⟨ob, ho, hc, n, hd⟩, hs⟩ := I.tuple hT
  obtain ⟨cls, dd, data, sl⟩ := ob
  have hc : cls = .type "tuple" := hc
  have hd : data = .seq its.toArray n := hd
  subst hc hd
  have hl : its.length = xs.length := r.length.symm
  have sz : its.toArray.size = xs.length := by rw [List.size_toArray, hl]
  have pos : 0 < xs.length := List.length_pos_iff.mpr hne
  have em : its.toArray.isEmpty = false := by
    cases its with
    | nil =>
      rw [List.length_nil] at hl
      omega
    | cons a b => rfl
  have kn : ((k.toNat : Nat) : Int) = k := Int.toNat_of_nonneg (by omega)
  have pr : ((its.toArray.size : Nat) : Int) * k = ((k.toNat * xs.length : Nat) : Int) := by
    rw [sz, Int.natCast_mul, kn, Int.mul_comm]
  have fl : (List.replicate k.toNat its).flatten.length = k.toNat * xs.length := by rw [PyProof.Rows.lm_len_rep_flat, hl]
  have fx : (List.replicate k.toNat xs).flatten.length = k.toNat * xs.length := PyProof.Rows.lm_len_rep_flat ..
  have line : PySem.sizeLine = 16777216 := rfl
  have d0 : (decide (k < -(2 ^ 63)) || decide (k ≥ 2 ^ 63)) = false := Bool.or_eq_false_iff.mpr ⟨decide_eq_false (by omega), decide_eq_false (by omega)⟩
  have d1 : (its.toArray.isEmpty || k == 1) = false := Bool.or_eq_false_iff.mpr ⟨em, beq_eq_false_iff_ne.mpr (by omega)⟩
  have d2 : (decide (k ≤ 0) || its.toArray.isEmpty) = false := Bool.or_eq_false_iff.mpr ⟨decide_eq_false (by omega), em⟩
  have d4 : PySem.Builtin.Tuple.tupleTooMany (((its.toArray.size : Nat) : Int) * k) = false := by
    rw [pr]
    unfold PySem.Builtin.Tuple.tupleTooMany
    exact decide_eq_false (by rw [line]; omega)
  have m := tuple_mulW l its.toArray n dd sl k t d0 d1 d2 (by rw [pr]; omega) d4 (by rw [size_rep, List.size_toArray, fl, line]; omega)
  rw [size_rep] at m
  have k1 := PySem.call_meets (prog := X.prog) (w := X.w) (A := X.A) (E := X.xe) (s := s) PySem.F.slot_tuple_mul (show s.TypeIs (.ref l) "tuple" from ⟨_, ho, rfl⟩) PySem.F.entry_tuple_mul (PySem.F.args_tuple_mul_2 (.ref l) (.int k t)) m (Q := EP X pins σ Q) ⟨ho, by
    refine ⟨.ref s.heap.objs.size, _, I.laid (t' := s.toks) (o := .tup (List.replicate k.toNat xs).flatten) (fun b ob z => PySem.Heap.get?_push_of_some _ z) (Nat.le_refl _) ?_, rfl, q _ (I.hok.fresh (Nat.le_refl _))⟩
    exact ⟨by rw [fx, line]; omega, _, r.rep k.toNat, PyProof.Rows.IsTup.new _ _⟩⟩
  exact PySem.wpAny_binaryOp_repeat_ref (T := "tuple") (U := "int") (by decide) ⟨_, ho, rfl⟩ (fun s' => PySem.typeIs_int s' k t) noFill_tuple_mul PySem.F.fills_int_mul PySem.F.slot_int_rmul repeat_tuple PySem.F.slot_int_index.lookup
    (PySem.call_meets PySem.F.slot_int_rmul (PySem.typeIs_int s k t) PySem.F.entry_int_rmul (PySem.F.args_int_rmul_2 _ _) (int_rmul_tuple k t l its.toArray n dd sl) ⟨ho, rfl, ⟨_, ho, rfl⟩, k1⟩)
def fMulT : F2 := fun _ x y => match x, y with
  | .v (.tup a), .v (.int k) => if a.isEmpty = false ∧ 2 ≤ k ∧ k ≤ 1000000 ∧ k.toNat * a.length ≤ 1000000 then some (.v (.tup (List.replicate k.toNat a).flatten)) else none
  | _, _ => none
theorem fMulT_ok {K : Frag} {mg : Mg} : F2Ok K mg fMulT (rMulT K) := fun w w0 w1 h x y z vx vy Q R qx qy e k => by
  unfold fMulT at e
  split at e
  · rename_i a i
    split at e
    · rename_i c
      cases e
      have e2 : vy = .int i := qy
      obtain ⟨p, xs, e1, s1, q1⟩ := qx
      subst e1 e2
      obtain ⟨c1, c2, c3, c4⟩ := c
      refine ⟨p, i, xs, rfl, rfl, s1.sqt, fun e0 => ?_, c2, c3, by rw [← q1.length]; exact c4, fun t ht => ?_⟩
      · have ea : a = [] := List.eq_nil_of_length_eq_zero (by rw [q1.length, e0]; rfl)
        subst ea
        cases c1
      · exact k (w.newT t _) _ (Le.newT ht) (R.newT ht) (res_newT R ht (q1.flatten_rep _))
    · cases e
  · cases e
section
variable {X : Cx} {W : WX} {a b : Expr} {fa fb : E} {pos : Pos}
theorem s_mulT (ha : PEs X W a fa) (hb : PEs X W b fb) : PEs X W (.BinOp a .Mult b pos) (e2 fMulT fa fb) := s_op op_mulT fMulT_ok ha hb
end
/-- a tuple of one, many times -/
theorem mulT_n {h : Heap} {x : Val} {k : Nat} (h2 : 2 ≤ k) (hk : k ≤ 1000000) : fMulT h (.v (.tup [x])) (.v (.int (k : Int))) = some (.v (.tup (List.replicate k x))) := by
  have e : (List.replicate k [x]).flatten = List.replicate k x := flat_one
  show (if [x].isEmpty = false ∧ (2 : Int) ≤ (k : Int) ∧ (k : Int) ≤ 1000000 ∧ ((k : Int)).toNat * 1 ≤ 1000000 then some (RV.v (.tup (List.replicate ((k : Int)).toNat [x]).flatten)) else none) = _
  rw [if_pos ⟨rfl, by omega, by omega, by omega⟩, Int.toNat_natCast, e]
end SM

/-! SMRevT: a tuple, a list read backwards. -/
namespace SM
open PySem (Str Expr Stmt Pos Operator CmpOp Value Shared)
open L2 hiding St tB tAnd tOr tNot tYes iRng1 iRng2 iRng3
theorem places_back (n : Nat) : PySem.Builtin.Slice.slicePlaces ((n : Int) - 1) (-1) (-1) = n := by
  unfold PySem.Builtin.Slice.slicePlaces
  rw [if_neg (by decide)]
  by_cases h : n = 0
  · subst h
    rfl
  · rw [if_pos (by omega), Int.neg_neg, Int.ediv_one]
    omega
theorem pick_back (xs : Array Value) : ((List.range xs.size).filterMap fun (m : Nat) => xs[(((xs.size : Nat) : Int) - 1 + (m : Int) * -1).toNat]?).toArray = xs.toList.reverse.toArray := by
  congr 1
  have key : ∀ k, k ≤ xs.size → ((List.range k).filterMap fun (m : Nat) => xs[(((xs.size : Nat) : Int) - 1 + (m : Int) * -1).toNat]?) = xs.toList.reverse.take k := by
    intro k
    induction k with
    | zero => intro _; rfl
    | succ k ih =>
      intro hk
      have hl : k < xs.toList.reverse.length := by rw [List.length_reverse, Array.length_toList]; omega
      have e1 : (((xs.size : Nat) : Int) - 1 + (k : Int) * -1).toNat = xs.size - 1 - k := by omega
      have e2 : xs[xs.size - 1 - k]? = some xs.toList.reverse[k] := by
        rw [← Array.getElem?_toList, ← List.getElem?_eq_getElem hl, List.getElem?_reverse (by rw [Array.length_toList]; omega), Array.length_toList]
      rw [List.range_succ, List.filterMap_append, ih (by omega), List.take_add_one, List.getElem?_eq_getElem hl]
      simp only [List.filterMap_cons, List.filterMap_nil, e1, e2, Option.toList_some]
  rw [key xs.size (Nat.le_refl _), List.take_of_length_le (by rw [List.length_reverse, Array.length_toList]; exact Nat.le_refl _)]
section
variable {prog : PySem.Program} {w : PySem.World} {A : PySem.Around} {E : Value → Shared → Prop} {s : Shared}
open PySem in
theorem applied_back {sl : Addr} {u : PySem.Tok} {n : Nat} {Q : Int × Int × Nat → Shared → Prop} (hs : s.heap.IsSliceOf sl .none .none (.int (-1) u)) (h : Q ((n : Int) - 1, -1, n) s) :
    wpAny (model prog w) A (Builtin.Slice.sliceApplied (.ref sl) (pure (n : Int))) Q E s := by
  obtain ⟨os, hos, hcs, hds⟩ := id hs
  unfold Builtin.Slice.sliceApplied
  unfold Builtin.Slice.sliceFields
  refine wpAny_bind ?_
  refine wpAny_bind (wpAny_field hos hds (x := .none) rfl ?_)
  refine wpAny_bind (wpAny_field hos hds (x := .none) rfl ?_)
  refine wpAny_bind (wpAny_field hos hds (x := .int (-1) u) rfl (wpAny_pure ?_))
  refine wpAny_bind (HT.slicePart_ (.int (-1) u) ?_)
  show wpAny _ _ (if ((-1 : Int) == 0) = true then _ else _) _ _ s
  rw [if_neg (by decide)]
  refine wpAny_bind (HT.slicePart_ .none (wpAny_bind (HT.slicePart_ .none (wpAny_bind (wpAny_pure ?_)))))
  have ea : Builtin.Slice.sliceAdjust none none (-1) (n : Int) = ((n : Int) - 1, -1) := rfl
  show wpAny _ _ (match Builtin.Slice.sliceAdjust none none (-1) (n : Int) with | (lo, hi) => pure (lo, (-1 : Int), Builtin.Slice.slicePlaces lo hi (-1))) _ _ s
  rw [ea]
  show wpAny _ _ (pure ((n : Int) - 1, (-1 : Int), Builtin.Slice.slicePlaces ((n : Int) - 1) (-1) (-1))) _ _ s
  rw [places_back]
  exact wpAny_pure h
open PySem in
theorem item_back {t sl : Addr} {items : Array Value} {u : PySem.Tok} {Q : Value → Shared → Prop} (ht : PyProof.Rows.IsTup s.heap t items) (hs : s.heap.IsSliceOf sl .none .none (.int (-1) u))
    (h : Q (.ref s.heap.objs.size) { s with heap := s.heap.push { cls := .type "tuple", data := .seq items.toList.reverse.toArray } }) (hsz : items.size ≤ sizeLine) : wpAny (model prog w) A (getItem (.ref t) (.ref sl)) Q E s := by
  have room : sizeOk (.seq items.toList.reverse.toArray) := by
    show items.toList.reverse.toArray.size ≤ sizeLine
    rw [List.size_toArray, List.length_reverse, Array.length_toList]
    exact hsz
  obtain ⟨os, hos, hcs, hds⟩ := id hs
  have tS : s.TypeIs (.ref sl) "slice" := ⟨os, hos, hcs⟩
  unfold getItem
  try with_reducible refine wpAny_holding ?_
  first | refine wpAny_bind (wpAny_pure ?_) | skip
  refine wpAny_bind (wpAny_sequenceKey ht.typeIs (by decide) ?_)
  have no : ¬ ((((items.size : Nat) : Int) - 1 == 0 && (-1 : Int) == 1 && items.size == items.size) = true) := fun z => by
    rw [Bool.and_eq_true, Bool.and_eq_true] at z
    exact absurd (eq_of_beq z.1.2) (by decide)
  refine wpAny_bind (wpAny_callSpecial?_slot (name := Str.ofString "__getitem__") ht.typeIs PyProof.Rows.slot_tuple_getitem (wpAny_call_entry PyProof.Rows.slot_tuple_getitem ht.typeIs PyProof.Rows.entry_tuple_getitem ?_ (PyProof.Rows.args_tuple_getitem _ _)))
  show wpAny _ _ (Builtin.Tuple.tupleItemsOf (.ref t) >>= _) _ _ s
  refine wpAny_bind (PyProof.Rows.tupleItemsOf_ ht (wpAny_bind (wpAny_typeOf tS ?_)))
  rw [if_pos (by decide)]
  refine wpAny_bind (applied_back hs ?_)
  show wpAny _ _ (if (((items.size : Nat) : Int) - 1 == 0 && (-1 : Int) == 1 && items.size == items.size) = true then _ else _) _ _ s
  rw [if_neg no, pick_back]
  exact wpAny_bind (m := Builtin.Tuple.tupleExact _) (wpAny_newObj_type (wpAny_pure ⟨_, rfl, wpAny_pure h⟩) room)
end
/-! ### xs[::-1], a list or a tuple -/
def tRevA (K : Frag) (te : TE) : TE := fun σ H Q => te σ H fun x H1 => ∃ a xs, x = .ref a ∧ ((SqL K H1 a xs ∧ ∀ p, H1 p = none → Q (.ref p) (upd H1 p (.lst xs.reverse))) ∨ (SqT K H1 a xs ∧ ∀ p, H1 p = none → Q (.ref p) (upd H1 p (.tup xs.reverse))))
section
variable {X : Cx} {W : WX} {e : Expr} {te : TE} {fa : E} {k : Nat} {p1 p2 p3 pos : Pos}
theorem pe_revA (he : PE X e te) : PE X (.Subscript e (.Slice none none (some (.UnaryOp .USub (.Constant (.int 1) k p1) p2)) p3) pos) (tRevA X.K te) := ⟨fun pins s σ H Q I h => by
  have st : PO X (some (.UnaryOp .USub (.Constant (.int 1) k p1) p2)) (tPart (tUn (rU fun i => .int (-i)) (tC (.int 1)))) := po_some (pe_un un_neg pe_int)
  refine PyProof.Rows.Subscript_ (thn (he.run pins s σ H _ I h) fun v s1 ⟨x, H1, I1, rx, a, xs, ex, q⟩ => ?_)
  subst ex
  obtain rfl : v = Value.ref a := rx
  refine PySem.wpAny_Slice (thn (po_none.run pins s1 σ H1 (fun o H2 => o = none ∧ H2 = H1) I1 ⟨rfl, rfl⟩) fun vl s2 ⟨l, H2, I2, pl, el, e2⟩ => ?_)
  subst el e2
  refine thn (po_none.run pins s2 σ H2 (fun o H3 => o = none ∧ H3 = H2) I2 ⟨rfl, rfl⟩) fun vu s3 ⟨u, H3, I3, pu, eu, e3⟩ => ?_
  subst eu e3
  refine thn (st.run pins s3 σ H3 (fun o H4 => o = some (-1) ∧ H4 = H3) I3 ⟨1, rfl, -1, rfl, rfl, rfl⟩) fun vs s4 ⟨o, H4, I4, ps, eo, e4⟩ => ?_
  subst eo e4
  have I5 : Inv X pins σ H4 { s4 with heap := s4.heap.push { cls := .type "slice", data := .fields #[vl, vu, vs] } } := I4.kept (t' := s4.toks) fun b ob q => PySem.Heap.get?_push_of_some _ q
  show PySem.wpAny (PySem.model X.prog X.w) X.A (PyProof.Rows.subscriptTail e (.Slice none none (some (.UnaryOp .USub (.Constant (.int 1) k p1) p2)) p3) (.ref a) (.ref s4.heap.objs.size)) (EP X pins σ Q) X.xe { s4 with heap := s4.heap.push { cls := .type "slice", data := .fields #[vl, vu, vs] } }
  rcases q with ⟨hx, q⟩ | ⟨hx, q⟩
  · obtain ⟨its, r, ht, hz⟩ := I5.list hx
    have hl := r.length
    refine PyProof.Rows.tail_any (ops := [.ref a, .ref s4.heap.objs.size]) ht.isList.typeIs (PySem.slot_list_getitem.lookup) ?_ (by with_unfolding_all rfl)
    refine PySem.wpAny_getItem_list_slice ht.isList (PySem.Heap.IsSliceOf.new _ vl vu vs) pl pu ps (by decide) ?_ (by rw [List.size_toArray]; omega)
    rw [PySem.W.krv_pick]
    exact ⟨.ref _, _, I5.laid (t' := s4.toks) (o := .lst xs.reverse) (fun b ob q => PySem.Heap.get?_push_of_some _ q) (Nat.le_refl _) ⟨by rw [List.length_reverse]; exact hz, _, 0, r.reverse, PySem.Heap.get?_push_size _ rfl⟩, rfl, q _ (I5.hok.fresh (Nat.le_refl _))⟩
  · obtain ⟨its, r, ht, hz⟩ := I5.tuple hx
    have hl := r.length
    cases pl
    cases pu
    cases ps with
    | int i t =>
      refine PyProof.Rows.tail_any (ops := [.ref a, .ref s4.heap.objs.size]) ht.typeIs (PyProof.Rows.slot_tuple_getitem.lookup) ?_ (by with_unfolding_all rfl)
      refine item_back ht (PySem.Heap.IsSliceOf.new _ .none .none (.int (-1) t)) ?_ (by rw [List.size_toArray]; omega)
      exact ⟨.ref _, _, I5.laid (t' := s4.toks) (o := .tup xs.reverse) (fun b ob q => PySem.Heap.get?_push_of_some _ q) (Nat.le_refl _) ⟨by rw [List.length_reverse]; exact hz, _, r.reverse, PyProof.Rows.IsTup.new _ _⟩, rfl, q _ (I5.hok.fresh (Nat.le_refl _))⟩⟩
def fRevA : F1 := fun h x => match look h x with
  | some (false, xs) => some (.own xs.reverse)
  | some (true, xs) => some (.v (.tup xs.reverse))
  | none => none
theorem s_revA {j : Nat} {p4 : Pos} {a : Expr} (ha : PEs X W a fa) : PEs X W (.Subscript a (.Slice none none (some (.UnaryOp .USub (.Constant (.int 1) j p4) p3)) p2) pos) (e1 fRevA fa) :=
  PE.weak (pe_revA ha) fun σ H Q ⟨w, r, h, e, R, k⟩ => by
    subst e
    refine ⟨w, r, h, rfl, R, EK.cut (fun x h1 w1 v1 l1 R1 q1 k1 => ?_) k⟩
    obtain ⟨z, ez, kz⟩ := opt_cut k1
    unfold fRevA at ez
    split at ez
    · rename_i xs hl
      cases ez
      obtain ⟨p, ys, e1, sq, q⟩ := look_lst R1 q1 hl
      exact ⟨p, ys, e1, .inl ⟨sq, fun t ht => kz (w1.newL t _) _ (Le.newL ht R1) (R1.newL ht) (res_newL R1 ht q.reverse)⟩⟩
    · rename_i xs hl
      cases ez
      obtain ⟨p, ys, e1, sq, q, ex⟩ := look_tup R1 q1 hl
      exact ⟨p, ys, e1, .inr ⟨sq, fun t ht => kz (w1.newT t _) _ (Le.newT ht) (R1.newT ht) (res_newT R1 ht q.reverse)⟩⟩
    · cases ez
end
theorem q_rvO {h : Heap} {xs : List Val} : fRevA h (.own xs) = some (.own xs.reverse) := (Eq.refl _).trans (Eq.refl _)
theorem q_rvR {h : Heap} {xs : List Val} : fRevA h (.v (.ro xs)) = some (.own xs.reverse) := (Eq.refl _).trans (Eq.refl _)
theorem q_rvW {h : Heap} {xs : List Val} : fRevA h (.view xs) = some (.own xs.reverse) := (Eq.refl _).trans (Eq.refl _)
theorem q_rvT {h : Heap} {xs : List Val} : fRevA h (.v (.tup xs)) = some (.v (.tup xs.reverse)) := (Eq.refl _).trans (Eq.refl _)
/-! ### greater numbers -/
theorem nn_shlB {h : Heap} {a k n : Nat} (c : a < 2 ^ (n + 1)) (d : n + 1 + k ≤ 134217728) : fShl h (.v (.int (a : Int))) (.v (.int (k : Int))) = some (.v (.int ((a * 2 ^ k : Nat) : Int))) := (shl_ii (Int.natCast_nonneg _) (by
  have := intBits_nat c
  omega)).trans (by rw [Int.toNat_natCast, n_mul2])
theorem nn_mulB {h : Heap} {a b n m : Nat} (c : a < 2 ^ (n + 1)) (d : b < 2 ^ (m + 1)) (e : n + m + 2 ≤ 134217728) : fMul h (.v (.int (a : Int))) (.v (.int (b : Int))) = some (.v (.int ((a * b : Nat) : Int))) := (mul_ii (by
  have := intBits_nat c
  have := intBits_nat d
  show (_ : Int) ≤ _
  omega)).trans (by rw [Int.natCast_mul])
end SM

/-! SMTx3: ranges with a step; texts put together. -/
namespace SM
open PySem (Str)
theorem rs_up {n c : Nat} (c0 : 0 < c) : PySem.Builtin.Range.rangeSize ((0 : Nat) : Int) (n : Int) (c : Int) = (((n + (c - 1)) / c : Nat) : Int) := by
  unfold PySem.Builtin.Range.rangeSize
  rw [if_pos (by omega)]
  by_cases h : n = 0
  · subst h
    rw [if_neg (by omega), Nat.zero_add, Nat.div_eq_of_lt (by omega)]
    rfl
  · rw [if_pos (by omega)]
    have e : (n + (c - 1)) / c = (n - 1) / c + 1 := by rw [show n + (c - 1) = (n - 1) + c by omega, Nat.add_div_right _ c0]
    rw [e, show ((n : Int) - ((0 : Nat) : Int) - 1) = ((n - 1 : Nat) : Int) by omega, ← Int.natCast_ediv]
    rfl
theorem fits2 {i : Int} (h1 : -(2 ^ 62) ≤ i) (h2 : i < 2 ^ 62) : PySem.Builtin.Range.rangeFitsLong i = true := by
  unfold PySem.Builtin.Range.rangeFitsLong
  rw [Bool.and_eq_true, decide_eq_true_eq, decide_eq_true_eq]
  omega
theorem small_up {n c : Nat} (c0 : 0 < c) (c1 : c < 1000000) (hn : n < 2 ^ 59) : PySem.Builtin.Range.small ((0 : Nat) : Int) (n : Int) (c : Int) = true := by
  have hd : (n + (c - 1)) / c ≤ n + (c - 1) := Nat.div_le_self _ _
  unfold PySem.Builtin.Range.small
  rw [rs_up c0]
  have f1 := fits2 (i := ((0 : Nat) : Int)) (by omega) (by omega)
  have f2 := fits2 (i := (n : Int)) (by omega) (by omega)
  have f3 := fits2 (i := (c : Int)) (by omega) (by omega)
  have f4 : PySem.Builtin.Range.rangeFitsLong (((n + (c - 1)) / c : Nat) : Int) = true := by
    generalize (n + (c - 1)) / c = d at *
    exact fits2 (by omega) (by omega)
  have f5 := fits2 (i := (n : Int) + ((c : Int) - 1)) (by omega) (by omega)
  have f6 : (c : Int) > 0 := by omega
  simp only [f1, f2, f3, f4, f5, if_pos f6, Bool.and_self, Bool.or_true]
theorem step_nats {c : Nat} : ∀ (k lo : Nat), stepTo (lo : Int) (c : Int) k = vNats ((List.range' 0 k).map fun j => lo + c * j)
  | 0, lo => rfl
  | k + 1, lo => by
    have ih := step_nats (c := c) k (lo + c)
    rw [List.range'_succ, List.map_cons]
    show Val.int (lo : Int) :: stepTo ((lo : Int) + (c : Int)) (c : Int) k = Val.int ((lo + c * 0 : Nat) : Int) :: vNats ((List.range' (0 + 1) k).map fun j => lo + c * j)
    rw [show ((lo : Int) + (c : Int)) = ((lo + c : Nat) : Int) by omega, ih, Nat.mul_zero, Nat.add_zero]
    congr 2
    apply List.ext_getElem
    · rw [List.length_map, List.length_map, List.length_range', List.length_range']
    · intro j h1 h2
      rw [List.getElem_map, List.getElem_map, List.getElem_range', List.getElem_range', Nat.one_mul, Nat.zero_add, show 0 + 1 + j = j + 1 by omega, Nat.mul_succ]
      omega
/-- range(0, n, c) -/
theorem rng3_n {h : Heap} {n c : Nat} (c0 : 0 < c) (c1 : c < 1000000) (hn : n < 2 ^ 59) : r3i (.v (.int ((0 : Nat) : Int))) (.v (.int (n : Int))) (.v (.int (c : Int))) h = .ok (vNats ((List.range' 0 ((n + (c - 1)) / c)).map fun j => 0 + c * j), []) h := by
  rw [q_r3i, rs_up c0, if_pos ⟨by omega, by omega, small_up c0 c1 hn, Int.natCast_nonneg _⟩, Int.toNat_natCast, step_nats]
/-! ### signs of a text -/
theorem ix_str {z : Str} {n : Nat} (hl : z.length ≤ 16777216) (hn : n < z.length) : ∃ c, ∀ h : Heap, fIx h (.v (.str z)) (.v (.int (n : Int))) = some (.v (.str ⟨#[c]⟩)) := by
  rw [len_tl] at hn
  refine ⟨(tl z)[n], fun h => ?_⟩
  show (if z.length ≤ line then (L2.atI z.cps.toList (n : Int)).map fun c => RV.v (.str ⟨#[c]⟩) else none) = _
  rw [if_pos hl, at_n, List.getElem?_eq_getElem hn]
  rfl
theorem add_str {x y : Str} {h : Heap} (hl : x.length + y.length ≤ 16777216) : fAdd h (.v (.str x)) (.v (.str y)) = some (.v (.str (x ++ y))) := by
  unfold fAdd
  exact if_pos hl
theorem app_len (x y : Str) : (x ++ y).length = x.length + y.length := by
  rw [len_tl, len_tl, len_tl, show tl (x ++ y) = tl x ++ tl y from TL.tl_append x y, List.length_append]
theorem join0_len (xs : List Str) : (PySem.Txt.join ("" : Str) xs).length = (xs.map (·.length)).sum := by
  have e0 : tl ("" : Str) = [] := by decide +kernel
  rw [TL.join_eq, len_tl, show tl (PySem.Str.join "" xs) = TL.joinL (tl ("" : Str)) (xs.map tl) from TL.tl_join _ _, e0]
  induction xs with
  | nil => rfl
  | cons x xs ih =>
    cases xs with
    | nil =>
      show (tl x).length = x.length + 0
      rw [len_tl, Nat.add_zero]
    | cons z zs =>
      show (tl x ++ ([] ++ TL.joinL [] ((z :: zs).map tl))).length = x.length + ((z :: zs).map (·.length)).sum
      rw [List.length_append, List.nil_append, ih, len_tl x]
theorem join0 {xs : List Str} {h : Heap} {k : Nat} (hx : ∀ x, x ∈ xs → x.length ≤ k) (hl : xs.length * k ≤ 16000000) : fJoin "" h (.own (vStrs xs)) = some (.v (.str (PySem.Txt.join "" xs))) := by
  have l0 : ("" : Str).length = 0 := by decide +kernel
  unfold fJoin
  show (match strsOf (vStrs xs) with
    | some ys => if (ys.map fun y : Str => y.length).sum + ys.length * ("" : Str).length ≤ 16777216 then some (RV.v (.str (PySem.Txt.join "" ys))) else none
    | none => none) = _
  rw [strsOf_map]
  have := sum_le hx
  exact if_pos (by rw [l0]; omega)
theorem sum_eq {xs : List Str} {k : Nat} (h : ∀ x, x ∈ xs → x.length = k) : (xs.map (·.length)).sum = xs.length * k := by
  induction xs with
  | nil => rw [List.map_nil, List.length_nil, Nat.zero_mul]; rfl
  | cons x xs ih => rw [List.map_cons, List.sum_cons, ih fun y hy => h y (List.mem_cons_of_mem _ hy), h x List.mem_cons_self, List.length_cons, Nat.succ_mul, Nat.add_comm]
/-- a comprehension of texts, of which some length is known -/
theorem lc_strs {own : List Nat} {s : Nat} {it : I} {e : E} {r : Env} {h h1 : Heap} {ns : List Nat} {dep : List Nat} {k : Nat} (hi : it r h = .ok (vNats ns, dep) h1) (hz : ns.length ≤ 16777216)
    (st : ∀ i : Nat, i ∈ ns → ∃ x : Str, x.length = k ∧ e ((wipeE r own).set s (some (.v (.int (i : Int))))) h1 = .ok (.v (.str x)) h1) : ∃ xs : List Str, eLc own (.nm s) it tYes e r h = .ok (.own (vStrs xs)) h1 ∧ xs.length = ns.length ∧ ∀ x, x ∈ xs → x.length = k := by
  obtain ⟨acc, h2, q, p1, p2, xs, p3, p4⟩ := lc_ok (own := own) (g := .nm s) (e := e) (P := fun j acc h => h = h1 ∧ acc.length = j ∧ ∃ xs : List Str, acc = vStrs xs ∧ ∀ x, x ∈ xs → x.length = k) hi (by rw [nats_len]; exact hz) (fun i acc h p => by rw [p.1]; exact Same.refl _ _) ⟨rfl, rfl, [], rfl, fun x hx => nomatch hx⟩ fun j v acc h hj ⟨q1, q2, xs, q3, q4⟩ => by
    subst q1
    obtain ⟨i, hi, rfl⟩ := List.mem_map.mp (List.mem_of_getElem? hj)
    obtain ⟨x, lx, ex⟩ := st i hi
    refine ⟨_, rfl, _, _, _, ex, rfl, rfl, by rw [List.length_append, q2]; rfl, xs ++ [x], by rw [q3]; exact (List.map_append (l₂ := [x]) ..).symm, fun y hy => ?_⟩
    rcases List.mem_append.mp hy with c | c
    · exact q4 y c
    · rw [List.mem_singleton.mp c]; exact lx
  subst p1 p3
  rw [strs_len] at p2
  exact ⟨xs, q, by rw [p2, nats_len], p4⟩
end SM
namespace SM
/-- a comprehension of draws: numbers; its iterable may draw, too -/
theorem lc_stn2 {own : List Nat} {s : Nat} {it : I} {e : E} {r : Env} {h0 : Heap} {t0 : St} {hs : Heap} {ks : List Nat} (Q : Nat → Prop) (hi : it r h0 = .ok (vNats ks, []) (t0.enc :: hs)) (hz : ks.length ≤ 16777216)
    (st : ∀ i : Nat, i ∈ ks → ∀ t : St, ∃ (z : Nat) (t' : St), e ((wipeE r own).set s (some (.v (.int (i : Int))))) (t.enc :: hs) = .ok (.v (.int (z : Int))) (t'.enc :: hs) ∧ Q z) :
    ∃ (zs : List Nat) (t' : St), eLc own (.nm s) it tYes e r h0 = .ok (.own (vNats zs)) (t'.enc :: hs) ∧ zs.length = ks.length ∧ ∀ z, z ∈ zs → Q z := by
  obtain ⟨acc, h2, q, ⟨t', e2⟩, zs, p2, p3, p4⟩ := lc_ok (own := own) (g := .nm s) (e := e) (P := fun k acc h => (∃ t : St, h = t.enc :: hs) ∧ ∃ zs : List Nat, acc = vNats zs ∧ zs.length = k ∧ ∀ z, z ∈ zs → Q z) hi (by rw [nats_len]; exact hz) (fun i acc h p => fun _ hi => nomatch hi) ⟨⟨t0, rfl⟩, [], rfl, rfl, fun z hz => nomatch hz⟩ fun k x acc h hk ⟨⟨t, p1⟩, zs, p2, p3, p4⟩ => by
    subst p1 p2
    obtain ⟨i, hi, rfl⟩ := List.mem_map.mp (List.mem_of_getElem? hk)
    obtain ⟨z, t', e2, pz⟩ := st i hi t
    refine ⟨_, rfl, _, _, _, e2, rfl, ⟨t', rfl⟩, zs ++ [z], (List.map_append (l₂ := [z]) ..).symm, by rw [List.length_append, p3]; rfl, fun y hy => ?_⟩
    rcases List.mem_append.mp hy with c | c
    · exact p4 y c
    · rw [List.mem_singleton.mp c]; exact pz
  subst e2 p2
  rw [nats_len] at p3
  exact ⟨zs, t', q, p3, p4⟩
end SM

namespace SM
open L2 PySem
/-- powers with a small base -/
abbrev fPow : F2 := fI (fun i j => 0 ≤ j ∧ j ≤ 1000000 ∧ i.natAbs < 2 ^ 64) fun i j => .int (i ^ j.toNat)
/-- is, is not between truth values -/
def fIsB (neg : Bool) : F2 := fun _ x y => match x, y with
  | .v (.bool a), .v (.bool b) => some (.v (.bool (decide (a = b) != neg)))
  | _, _ => none
theorem fIsB_ok {K : Frag} {mg : Mg} : F2Ok K mg (fIsB false) (fun x y H Q => ∃ a b, x = .bl a ∧ y = .bl b ∧ Q (.bl (decide (a = b))) H) := fun w w0 w1 h x y z vx vy Q R qx qy e k => by
  unfold fIsB at e
  split at e
  · rename_i a b
    cases e
    have e1 : vx = .bl a := qx
    have e2 : vy = .bl b := qy
    subst e1 e2
    exact ⟨a, b, rfl, rfl, k w _ (Le.refl w) R (by show _ = _; rw [Bool.bne_false])⟩
  · cases e
theorem fIsNB_ok {K : Frag} {mg : Mg} : F2Ok K mg (fIsB true) (fun x y H Q => ∃ a b, x = .bl a ∧ y = .bl b ∧ Q (.bl (!decide (a = b))) H) := fun w w0 w1 h x y z vx vy Q R qx qy e k => by
  unfold fIsB at e
  split at e
  · rename_i a b
    cases e
    have e1 : vx = .bl a := qx
    have e2 : vy = .bl b := qy
    subst e1 e2
    exact ⟨a, b, rfl, rfl, k w _ (Le.refl w) R (by show _ = _; rw [Bool.bne_true])⟩
  · cases e
section
variable {X : Cx} {W : WX} {a b : Expr} {fa fb : E} {pos : Pos}
theorem s_pow (ha : PEs X W a fa) (hb : PEs X W b fb) : PEs X W (.BinOp a .Pow b pos) (e2 fPow fa fb) := s_op (r2 := rI CPow fun i j => .int (i ^ j.toNat)) op_pow (fI_ok (C := fun i j => 0 ≤ j ∧ j ≤ 1000000 ∧ i.natAbs < 2 ^ 64) fun _ _ _ => rfl) ha hb
theorem s_isB (ha : PEs X W a fa) (hb : PEs X W b fb) : PEs X W (.Compare a [.Is] [b] pos) (e2 (fIsB false) fa fb) := s_cmp op_is_bl fIsB_ok (nomark _) ha hb
theorem s_isNB (ha : PEs X W a fa) (hb : PEs X W b fb) : PEs X W (.Compare a [.IsNot] [b] pos) (e2 (fIsB true) fa fb) := s_cmp op_isnot_bl fIsNB_ok (nomark _) ha hb
theorem st_isB (ha : PEs X W a fa) (hb : PEs X W b fb) : PTs' X W (.Compare a [.Is] [b] pos) (tB (e2 (fIsB false) fa fb)) := st_cmp op_is_bl fIsB_ok (nomark _) ha hb
theorem st_isNB (ha : PEs X W a fa) (hb : PEs X W b fb) : PTs' X W (.Compare a [.IsNot] [b] pos) (tB (e2 (fIsB true) fa fb)) := st_cmp op_isnot_bl fIsNB_ok (nomark _) ha hb
end
theorem nn_pow {h : Heap} {a k : Nat} (c1 : a < 2 ^ 64) (c2 : k ≤ 1000000) : fPow h (.v (.int (a : Int))) (.v (.int (k : Int))) = some (.v (.int ((a ^ k : Nat) : Int))) :=
  (if_pos ⟨Int.natCast_nonneg _, by omega, by rw [Int.natAbs_natCast]; exact c1⟩).trans (by show some (RV.v (Val.int ((a : Int) ^ ((k : Int)).toNat))) = _; rw [Int.toNat_natCast, Int.natCast_pow])
theorem isB_b {h : Heap} {a b n : Bool} : fIsB n h (.v (.bool a)) (.v (.bool b)) = some (.v (.bool (decide (a = b) != n))) := (Eq.refl _).trans (Eq.refl _)
end SM

set_option maxHeartbeats 1000000
/-! SMEnum: enumerate of a list, a tuple or a text; reversed; isqrt. -/
namespace SMN
open PySem PySem.Spec PyProof.Rows L2
theorem made1 {v : Value} {o : Obj} {H : Heap → Prop} (B : Begins v o H) :
    Meets (Builtin.«enumerate.__new__» ⟨[.type "enumerate", v], []⟩) (fun _ R s => H s.heap ∧ R (.ok (.ret (.ref (s.heap.push o).objs.size)))
      { s with heap := (s.heap.push o).push { cls := .type "enumerate", data := .fields #[.none, .bool false, .ref s.heap.objs.size, rawInt 0, .none, .none] } }) := .of_wp fun prog w A R s ⟨k1, k⟩ => by
  obtain ⟨hp, g, d, tk, os⟩ := s
  have h0 := sub_enumerate
  have walk : ∀ {A1 : Around} {E1 : Value → Shared → Prop} {Q1 : Value → Shared → Prop}, Q1 (.ref hp.objs.size) ⟨hp.push o, g, d, tk, os⟩ → wpAny (model prog w) A1 (pyIter v) Q1 E1 ⟨hp, g, d, tk, os⟩ := fun z => B.iter prog w _ _ ⟨hp, g, d, tk, os⟩ _ k1 z
  wp_walk using walk
  refine wpAny_stack_any fun _ => wpAny_pure ?_
  split
  · rename_i c _ _ _ _ _
    cases (c == Value.type "enumerate") <;> (wp_walk using walk; exact ⟨_, rfl, k⟩)
  · wp_walk using walk
    exact ⟨_, rfl, k⟩
section
variable {prog : Program} {w : World} {A : Around} {E : Value → Shared → Prop} {s : Shared}
theorem begun {v : Value} {o : Obj} {H : Heap → Prop} {Q : Value → Shared → Prop} (B : Begins v o H) (k1 : H s.heap)
    (k : ∀ h1, IsEnum h1 (s.heap.objs.size + 1) s.heap.objs.size 0 .none → h1.get? s.heap.objs.size = some o → (∀ b p, s.heap.get? b = some p → h1.get? b = some p) → Q (.ref (s.heap.objs.size + 1)) { s with heap := h1 }) :
    wpAny (model prog w) A (call (.type "enumerate") [v]) Q E s := by
  refine callType_new F.called_enumerate (by decide) (F.typeCall_enumerate_1 _) (F.newCall_enumerate_1 _) (fun z => F.args_object_init_2 z _) F.entry_enumerate_new (made1 B) ⟨k1, ?_⟩
  have sz : (s.heap.push o).objs.size = s.heap.objs.size + 1 := Heap.size_push ..
  have en : IsEnum ((s.heap.push o).push { cls := .type "enumerate", data := .fields #[.none, .bool false, .ref s.heap.objs.size, rawInt 0, .none, .none] }) (s.heap.objs.size + 1) s.heap.objs.size 0 .none := by
    have z := Heap.get?_push_size (s.heap.push o) (o := { cls := .type "enumerate", data := .fields #[.none, .bool false, .ref s.heap.objs.size, rawInt 0, .none, .none] }) rfl
    rw [sz] at z
    exact z
  show _ ∧ _
  rw [sz]
  exact ⟨⟨_, en, rfl⟩, k _ en (Heap.get?_push_of_some _ (Heap.get?_push_size _ B.free)) fun b p z => Heap.get?_push_of_some _ (Heap.get?_push_of_some _ z)⟩
end
/-- numbered items of the tuple at a -/
def ItN (K : PySem.W.Frag) (a : Addr) : It :=
  ⟨fun i H => ∃ (ys : List V) (y : V), SqT K H a ys ∧ ys[i]? = some y, fun i H v H2 => ∃ T y, v = .ref T ∧ H T = none ∧ H2 = upd H T (.tup [.int (i : Nat), y]) ∧ ∀ ys, SqT K H a ys → ys[i]? = some y, fun i H => ∃ ys : List V, SqT K H a ys ∧ ys.length = i⟩
/-- numbered signs of a text -/
def ItC (z : Str) : It :=
  ⟨fun i _ => i < z.cps.size, fun i H v H2 => ∃ T c, v = .ref T ∧ H T = none ∧ H2 = upd H T (.tup [.int (i : Nat), .str ⟨#[c]⟩]) ∧ z.cps[i]? = some c, fun i _ => i = z.cps.size⟩
/-- what an iterator over a tuple or a text needs to be numbered: fp its addresses, Pv what it yields -/
theorem turn_num {P : Program} {w : World} {K : PySem.W.Frag} {elts : List Expr} {kk : Nat} {tpos : Pos} (J : It) (e it : Addr) (fp : List Addr) (n : Nat) (St : Nat → Heap → Prop)
    (live : ∀ i h, St i h → ∃ o, h.get? it = some o ∧ ∀ v, o.data ≠ .cell v) (frm : ∀ i h h1, St i h → (∀ b, b = it → ∀ o, h.get? b = some o → h1.get? b = some o) → St i h1)
    (hne : e ≠ it)
    (go : ∀ (X : Cx) (pins : List (Addr × Obj)) (σ : L2.St) (H : Hp) (s : Shared) (i : Nat) (E : Value → Shared → Prop), X.prog = P → X.w = w → X.K = K → X.calm = true → Inv X pins σ H s → St i s.heap → J.go i H → (∃ old, IsEnum s.heap e it ((i : Nat) : Int) old) →
      ∀ (Q : Option Value → Shared → Prop), (∀ (u : Value) (x : V) h1 tk, RelV x u → (∀ T, H T = none → J.yld i H (.ref T) (upd H T (.tup [.int (i : Nat), x]))) → IsEnumOut h1 e it ((i : Int) + 1) u s.heap.objs.size → St (i + 1) h1 →
        h1.get? s.heap.objs.size = some { cls := .type "tuple", data := .seq #[.int i tk, u] } → (∀ b o, b ≠ e → b ≠ it → s.heap.get? b = some o → h1.get? b = some o) → Q (some (.ref s.heap.objs.size)) { s with heap := h1, toks := tk + 1 }) →
      wpAny (model P w) X.A (pyNext (.ref e)) Q E s)
    (fin : ∀ (X : Cx) (pins : List (Addr × Obj)) (σ : L2.St) (H : Hp) (s : Shared) (i : Nat) (E : Value → Shared → Prop), X.prog = P → X.w = w → X.K = K → X.calm = true → Inv X pins σ H s → St i s.heap → J.stop i H → (∃ old, IsEnum s.heap e it ((i : Nat) : Int) old) →
      ∀ (Q : Option Value → Shared → Prop), (∀ h1, Heap.ExtBut it s.heap h1 → Q none { s with heap := h1 }) → wpAny (model P w) X.A (pyNext (.ref e)) Q E s) :
    Turn P w K (.Tuple elts kk tpos) J [e, it] e (fun i h => (∃ old, IsEnum h e it ((i : Nat) : Int) old) ∧ St i h) where
  mem := by simp
  obj := fun i h ⟨⟨old, en⟩, st⟩ b hb => by
    rcases (show b = e ∨ b = it by simpa using hb) with z | z
    · rw [z]; exact ⟨_, en, fun v q => nomatch q⟩
    · rw [z]; exact live i h st
  keep := fun i h h1 ⟨⟨old, en⟩, st⟩ k => ⟨⟨old, k e (by simp) _ en⟩, frm i h h1 st fun b z o => by rw [z]; exact k it (by simp) o⟩
  item := by
    intro X hP hw hK hc i pins s σ H E I hf ⟨hen, st⟩ hg
    have hel : e < s.heap.objs.size := Heap.lt_size hen.choose_spec
    obtain ⟨o0, ho0, _⟩ := live i _ st
    have hil : it < s.heap.objs.size := Heap.lt_size ho0
    refine go X pins σ H s i E hP hw hK hc I st hg hen _ fun u x h1 tk ru yl eo st2 hT hk => ?_
    refine ⟨_, rfl, wpAny_letOwnedTupleGo_enum (s := { s with heap := h1, toks := tk + 1 }) eo fun h2 en2 sb => ?_⟩
    have hT2 : h2.get? s.heap.objs.size = some { cls := .type "tuple", data := .seq #[.int i tk, u] } := (sb.2 _ (Nat.ne_of_gt hel)).trans hT
    have ob : ObjOk X.prog X.w (upd H s.heap.objs.size (.tup [.int (i : Nat), x])) h2 s.heap.objs.size (.tup [.int (i : Nat), x]) := ⟨by show 2 ≤ sizeLine; decide, [.int i tk, u], .cons ⟨_, rfl⟩ (.cons ru .nil), ⟨_, hT2, rfl, _, rfl⟩⟩
    have I2 : Inv X pins σ (upd H s.heap.objs.size (.tup [.int (i : Nat), x])) { s with heap := h2, toks := tk + 1 } :=
      I.turnedNew (ch := [e, it]) (fun b o hb q => (sb.2 b (fun z => hb (by simp [z]))).trans (hk b o (fun z => hb (by simp [z])) (fun z => hb (by simp [z])) q)) hf (Nat.le_refl _) ob
    refine ⟨.ref s.heap.objs.size, _, I2, rfl, yl _ (I.hok.fresh (Nat.le_refl _)), ⟨⟨u, by rw [show ((i + 1 : Nat) : Int) = (i : Int) + 1 by omega]; exact en2⟩, frm (i + 1) h1 h2 st2 fun b z o q => by rw [z] at q ⊢; exact (sb.2 it (Ne.symm hne)).trans q⟩, fun b hb => ?_⟩
    have hbl : b < s.heap.objs.size := by
      rcases (show b = e ∨ b = it by simpa using hb) with z | z
      · rw [z]; exact hel
      · rw [z]; exact hil
    rw [upd_ne (Nat.ne_of_lt hbl)]
    exact (hf b hb).1
  done := by
    intro X hP hw hK hc i pins s σ H E I hf ⟨hen, st⟩ hg
    obtain ⟨f0, f1, f2, f3, f4, f5⟩ := hf it (by simp)
    exact fin X pins σ H s i E hP hw hK hc I st hg hen _ fun h1 eb => ⟨rfl, I.turned (t' := s.toks) (fun b o hb q => eb b o hb q) f0 f1 f3 f4 f5⟩
  self := fun A i s Q E ⟨⟨_, en⟩, _⟩ k => wpAny_pyIter_enum en k
theorem turn_numT {P : Program} {w : World} {K : PySem.W.Frag} {elts : List Expr} {kk : Nat} {tpos : Pos} (a e it : Addr) (hne : e ≠ it) :
    Turn P w K (.Tuple elts kk tpos) (ItN K a) [e, it] e (fun i h => (∃ old, IsEnum h e it ((i : Nat) : Int) old) ∧ h.IsTupleIter it a i) := by
  have apart : ∀ (h : Heap) (i : Nat) (its : Array Value) (old : Value), IsEnum h e it ((i : Nat) : Int) old → h.IsTupleIter it a i → h.IsTuple a its → a ≠ it ∧ e ∉ [it, a] := fun h i its old en ⟨o, ho, hc, hd⟩ ⟨o2, ho2, hc2, _⟩ => by
    have c1 : a ≠ it := fun z => by
      rw [z] at ho2
      rw [ho] at ho2
      cases ho2
      rw [hc] at hc2
      injection hc2 with z
      exact absurd z (by decide)
    have c2 : e ≠ a := fun z => by
      have en2 : h.get? e = some _ := en
      rw [z, ho2] at en2
      cases en2
      injection hc2 with z
      exact absurd z (by decide)
    exact ⟨c1, by simp [hne, c2]⟩
  refine turn_num (ItN K a) e it [it, a] 0 (fun i h => h.IsTupleIter it a i) (fun i h ⟨o, ho, hc, hd⟩ => ⟨o, ho, fun v z => by rw [hd] at z; cases z⟩) (fun i h h1 st k => st.at fun o q => k it rfl o q) hne ?_ ?_
  · intro X pins σ H s i E hP hw hK hcal I st hg ⟨old, en⟩ Q k
    subst hP hw hK
    obtain ⟨ys, y, hq, hy⟩ := hg
    obtain ⟨its, rv, p, hz⟩ := I.tuple hq
    obtain ⟨u, hu, ru⟩ := rv.get hy
    have p : s.heap.IsTuple a its.toArray := p
    have hlt : i < its.toArray.size := by
      have := (List.getElem?_eq_some_iff.mp hu).1
      simpa using this
    obtain ⟨c1, c2⟩ := apart _ i _ old en st p
    refine wpAny_pyNext_enum_itemD (Draws.tuple (show X.A.in1.handled = none from I.ok.hd hcal) it a c1 its.toArray) en ⟨st, p⟩ hlt hne c2 fun x h1 tk px eo st2 hT _ hk => ?_
    have ex : x = u := by
      have px : its.toArray[i]? = some x := px
      rw [List.getElem?_toArray, hu] at px
      exact (Option.some.inj px).symm
    subst ex
    exact k x y h1 tk ru (fun T hT => ⟨T, y, rfl, hT, rfl, fun zs hs => by rw [I.tuple_inj hs hq]; exact hy⟩) eo st2.1 hT hk
  · intro X pins σ H s i E hP hw hK hc I st hg ⟨old, en⟩ Q k
    subst hP hw hK
    obtain ⟨ys, hq, hl⟩ := hg
    obtain ⟨its, rv, p, hz⟩ := I.tuple hq
    have p : s.heap.IsTuple a its.toArray := p
    have hl2 := rv.length
    have hi : i = its.toArray.size := by rw [List.size_toArray]; omega
    obtain ⟨c1, c2⟩ := apart _ i _ old en st p
    have hh : X.A.in1.handled = none := I.ok.hd hc
    refine wpAny_pyNext_enum_endD (Draws.tuple hh it a c1 its.toArray) en (by rw [← hi]; exact ⟨st, p⟩) k
theorem turn_numC {P : Program} {w : World} {K : PySem.W.Frag} {elts : List Expr} {kk : Nat} {tpos : Pos} (z : Str) (t : Tok) (e it : Addr) (hne : e ≠ it) :
    Turn P w K (.Tuple elts kk tpos) (ItC z) [e, it] e (fun i h => (∃ old, IsEnum h e it ((i : Nat) : Int) old) ∧ h.IsStrIter it (strIterType z) z t i) := by
  refine turn_num (ItC z) e it [it] 0 (fun i h => h.IsStrIter it (strIterType z) z t i) (fun i h ⟨o, ho, hc, hd⟩ => ⟨o, ho, fun v z => by rw [hd] at z; cases z⟩) (fun i h h1 ⟨o, ho, q⟩ k => ⟨o, k it rfl o ho, q⟩) hne ?_ ?_
  · intro X pins σ H s i E hP hw hK hcal I st hg ⟨old, en⟩ Q k
    subst hP hw hK
    refine wpAny_pyNext_enum_itemD (Draws.text (show X.A.in1.handled = none from I.ok.hd hcal) it z t) en st hg hne (by simp [hne]) fun x h1 tk ⟨c, u, px, ex⟩ eo st2 hT _ hk => ?_
    subst ex
    exact k _ (.str ⟨#[c]⟩) h1 tk ⟨u, rfl⟩ (fun T hT => ⟨T, c, rfl, hT, rfl, px⟩) eo st2 hT hk
  · intro X pins σ H s i E hP hw hK hc I st hg ⟨old, en⟩ Q k
    subst hP hw hK
    have hi : i = z.cps.size := hg
    refine wpAny_pyNext_enum_endD (Draws.text (show X.A.in1.handled = none from I.ok.hd hc) it z t) en (by rw [← hi]; exact st) k
/-- enumerate(x), x a list, a tuple or a text -/
def iNum (K : PySem.W.Frag) (te : TE) : TI := fun σ H R => te σ H fun x H1 => (∃ a t, x = .ref a ∧ (∃ xs, SMZ.SqK t K H1 a xs) ∧ R (if t then ItN K a else Ite K a) H1) ∨ ∃ z, x = .str z ∧ R (ItC z) H1
theorem pi_num {X : Cx} {e : Expr} {te : TE} {p pos tpos : Pos} {elts : List Expr} {kk : Nat} (hg : Gl X "enumerate") (hm : X.mg "enumerate" = none) (he : PE X e te) (hs : starEach [e] X.env = (false, eval e X.env) :: starEach [] X.env := by rfl) :
    PI X (.Tuple elts kk tpos) (.Call (.Name "enumerate" p) [e] [] pos) (iNum X.K te) := by
  refine ⟨fun pins s σ H R I h => ?_⟩
  refine Call_ (ld_blt I hg hm boot_enumerate (PyProof.Rows.callWith_type1 (args_cons (thn (he.run pins s σ H _ I h) fun u s1 ⟨v, H1, I1, r1, q1⟩ => args_nil ?_) hs) hs rfl))
  have room : ∀ b ∈ [s1.heap.objs.size + 1, s1.heap.objs.size], FpOk X pins H1 b := fun b hb => by
    have le : s1.heap.objs.size ≤ b := by
      rcases (show b = s1.heap.objs.size + 1 ∨ b = s1.heap.objs.size by simpa using hb) with z | z <;> omega
    exact I1.fpOk le (I1.hok.fresh le)
  rcases q1 with ⟨a, t, ev, ⟨xs, hq⟩, q⟩ | ⟨z, ev, q⟩
  · subst ev
    obtain rfl : u = Value.ref a := r1
    cases t with
    | false =>
      obtain ⟨its, rv, p', hz⟩ := I1.list hq
      refine begun (begins_list a its.toArray) p'.isList fun h1 en it hk => wpAny_pyIter_enum en ?_
      have I2 : Inv X pins σ H1 { s1 with heap := h1 } := I1.kept (t' := s1.toks) hk
      exact ⟨s1.heap.objs.size + 1, [s1.heap.objs.size + 1, s1.heap.objs.size], _, _, H1, rfl, I2, turn_enum a (s1.heap.objs.size + 1) s1.heap.objs.size, ⟨⟨.none, en⟩, ⟨_, it, rfl, rfl⟩, Nat.succ_ne_self _⟩, room, q⟩
    | true =>
      obtain ⟨its, rv, p', hz⟩ := I1.tuple hq
      refine begun (begins_tuple a its.toArray) p' fun h1 en it hk => wpAny_pyIter_enum en ?_
      have I2 : Inv X pins σ H1 { s1 with heap := h1 } := I1.kept (t' := s1.toks) hk
      exact ⟨s1.heap.objs.size + 1, [s1.heap.objs.size + 1, s1.heap.objs.size], _, _, H1, rfl, I2, turn_numT a (s1.heap.objs.size + 1) s1.heap.objs.size (Nat.succ_ne_self _), ⟨⟨.none, en⟩, ⟨_, it, rfl, rfl⟩⟩, room, q⟩
  · subst ev
    obtain ⟨t, rfl⟩ := r1
    refine begun (begins_text z t) trivial fun h1 en it hk => wpAny_pyIter_enum en ?_
    have I2 : Inv X pins σ H1 { s1 with heap := h1 } := I1.kept (t' := s1.toks) hk
    exact ⟨s1.heap.objs.size + 1, [s1.heap.objs.size + 1, s1.heap.objs.size], _, _, H1, rfl, I2, turn_numC z t (s1.heap.objs.size + 1) s1.heap.objs.size (Nat.succ_ne_self _), ⟨⟨.none, en⟩, ⟨_, it, rfl, rfl⟩⟩, room, q⟩
/-! ### isqrt -/
def rIsq : List V → Hp → VK → Prop := fun vs H Q => ∃ a : Int, vs = [.int a] ∧ 0 ≤ a ∧ a < 2 ^ 300 ∧ Q (.int ((Float64.isqrt a.toNat : Nat) : Int)) H
theorem cr_isq {X : Cx} : CallR X (.builtin "math.isqrt") rIsq := by
  intro pins s σ H vs us Q I r h
  obtain ⟨a, rfl, a0, a1, q⟩ := h
  obtain ⟨t, rfl⟩ : ∃ t, us = [.int a t] := by
    cases r with
    | cons r1 rr =>
      cases rr
      obtain ⟨t, rfl⟩ := r1
      exact ⟨t, rfl⟩
  have hl : a.toNat.log2 ≤ 299 := PySem.W.mg_log (by show a.toNat < 2 ^ 300; omega)
  exact call_function_meets PySem.W.MGF.kind_isqrt PySem.W.MGF.plain_isqrt PySem.W.MGF.entry_isqrt (PySem.W.MGF.args_isqrt _) (PySem.W.mg_run_isqrt a t (by omega) (by omega) (by omega)).meets ⟨.int _, H, I.tok _, ⟨_, rfl⟩, q⟩
end SMN
namespace SM
open PySem (Str Expr Stmt Pos Operator CmpOp)
open L2 hiding St tB tAnd tOr tNot tYes iRng1 iRng2 iRng3
def numd : Nat → List Val → List Val
  | _, [] => []
  | i, x :: xs => .tup [.int (i : Nat), x] :: numd (i + 1) xs
theorem numd_len : ∀ (xs : List Val) (k : Nat), (numd k xs).length = xs.length
  | [], _ => rfl
  | x :: xs, k => by
    show (numd (k + 1) xs).length + 1 = xs.length + 1
    rw [numd_len xs]
theorem numd_get : ∀ (xs : List Val) (k i : Nat) (x : Val), xs[i]? = some x → (numd k xs)[i]? = some (.tup [.int ((k + i : Nat) : Int), x])
  | x :: xs, k, 0, y, h => by
    have h : some x = some y := h
    cases h
    rfl
  | x :: xs, k, i + 1, y, h => by
    have := numd_get xs (k + 1) i y h
    rw [show k + 1 + i = k + (i + 1) by omega] at this
    exact this
  | [], _, _, _, h => by simp at h
def iNumS (sq : Heap → RV → Option (Bool × List Val × List Nat)) (a : E) : I := fun r h => (a r h).bind fun x h1 => match x with
  | .v (.str z) => .ok (numd 0 (chars z), []) h1
  | x => match sq h1 x with
    | some (_, xs, dep) => .ok (numd 0 xs, dep) h1
    | none => .no
def iRevS (sq : Heap → RV → Option (Bool × List Val × List Nat)) (a : E) : I := fun r h => (a r h).bind fun x h1 => match sq h1 x with
  | some (_, xs, dep) => .ok (xs.reverse, dep) h1
  | none => .no
abbrev fIsqrt : F1 := fun _ x => match x with
  | .v (.int a) => if 0 ≤ a ∧ a < 2 ^ 300 then some (.v (.int ((PySem.Float64.isqrt a.toNat : Nat) : Int))) else none
  | _ => none
section
variable {K : Frag} {mg : Mg} {w w0 : Rw} {h : Heap} {a : Addr} {ow : Addr → Prop} {dep : List Nat}
theorem wk_num {t : Bool} {xs : List Val} (s : SeqSt K mg ow w h dep t a xs) : Wk K mg ow w h (if t then SMN.ItN K a else Ite K a) (numd 0 xs) dep := fun w2 h2 l R2 sm => by
  obtain ⟨ys, s, q2⟩ := s w2 h2 l R2 sm
  rw [numd_len]
  have one : ∀ (i : Nat) (T : Addr) (y : V), w2.H T = none → ys[i]? = some y → ∃ w3 z, w3.H = upd w2.H T (.tup [.int (i : Nat), y]) ∧ Le w2 w3 ∧ RHp K mg w3 h2 ∧ (numd 0 xs)[i]? = some z ∧ RVal K w3 z (.ref T) := fun i T y hT hy => by
    obtain ⟨z, hz, qz⟩ := q2.get' hy
    refine ⟨w2.newT T [.int (i : Nat), y], _, rfl, Le.newT hT, R2.newT hT, numd_get xs 0 i z hz, ?_⟩
    rw [Nat.zero_add]
    exact res_newT (xs := [.int (i : Nat), z]) R2 hT ⟨.int (i : Nat), [y], rfl, rfl, y, [], rfl, qz, rfl⟩
  cases t with
  | false =>
    refine ⟨fun i hi => ?_, ⟨ys, s, by rw [q2.length]; exact Nat.le_refl _⟩, fun i x H' hi ⟨T, y, ex, hT, eH, f⟩ => ?_⟩
    · obtain ⟨v, hv, _⟩ := q2.get (List.getElem?_eq_getElem hi)
      exact ⟨ys, v, s, hv⟩
    · subst ex eH
      exact one i T y hT (f ys s)
  | true =>
    refine ⟨fun i hi => ?_, ⟨ys, s, q2.length.symm⟩, fun i x H' hi ⟨T, y, ex, hT, eH, f⟩ => ?_⟩
    · obtain ⟨v, hv, _⟩ := q2.get (List.getElem?_eq_getElem hi)
      exact ⟨ys, v, s, hv⟩
    · subst ex eH
      exact one i T y hT (f ys s)
theorem wk_numC {z : Str} : Wk K mg ow w h (SMN.ItC z) (numd 0 (chars z)) [] := fun w2 h2 l R2 _ => by
  have hl : (chars z).length = z.cps.size := by unfold chars; rw [List.length_map, Array.length_toList]
  rw [numd_len, hl]
  refine ⟨fun i hi => hi, rfl, fun i x H' hi ⟨T, c, ex, hT, eH, f⟩ => ?_⟩
  subst ex eH
  have hz : (chars z)[i]? = some (chV c) := by
    unfold chars
    rw [List.getElem?_map, Array.getElem?_toList, f]
    rfl
  refine ⟨w2.newT T [.int (i : Nat), .str ⟨#[c]⟩], _, rfl, Le.newT hT, R2.newT hT, numd_get _ 0 i _ hz, ?_⟩
  rw [Nat.zero_add]
  exact res_newT (xs := [.int (i : Nat), chV c]) R2 hT ⟨.int (i : Nat), [.str ⟨#[c]⟩], rfl, rfl, .str ⟨#[c]⟩, [], rfl, rfl, rfl⟩
theorem wk_rev {t : Bool} {xs : List Val} {n : Nat} (hn : n = xs.length) (s : SeqSt K mg ow w h dep t a xs) : Wk K mg ow w h (if t then RT.ItvT K a n else Itv K a n) xs.reverse dep := fun w2 h2 l R2 sm => by
  subst hn
  obtain ⟨ys, s, q2⟩ := s w2 h2 l R2 sm
  rw [List.length_reverse]
  have there : ∀ i, i < xs.length → ∃ v, ys[xs.length - 1 - i]? = some v := fun i hi => by
    obtain ⟨v, hv, _⟩ := q2.get (List.getElem?_eq_getElem (show xs.length - 1 - i < xs.length by omega))
    exact ⟨v, hv⟩
  have one : ∀ (i : Nat) (y : V), i < xs.length → ys[xs.length - 1 - i]? = some y → ∃ z, xs.reverse[i]? = some z ∧ RVal K w2 z y := fun i y hi hy => by
    obtain ⟨z, hz, qz⟩ := q2.get' hy
    exact ⟨z, by rw [List.getElem?_reverse hi]; exact hz, qz⟩
  cases t with
  | false =>
    refine ⟨fun i hi => ?_, Nat.le_refl _, fun i x H' hi ⟨e, y⟩ => ?_⟩
    · obtain ⟨v, hv⟩ := there i hi
      exact ⟨hi, ys, v, s, hv⟩
    · obtain ⟨z, hz, qz⟩ := one i x hi (y ys s)
      exact ⟨w2, z, e.symm, Le.refl w2, R2, hz, qz⟩
  | true =>
    refine ⟨fun i hi => ?_, Nat.le_refl _, fun i x H' hi ⟨e, y⟩ => ?_⟩
    · obtain ⟨v, hv⟩ := there i hi
      exact ⟨hi, ys, v, s, hv⟩
    · obtain ⟨z, hz, qz⟩ := one i x hi (y ys s)
      exact ⟨w2, z, e.symm, Le.refl w2, R2, hz, qz⟩
end
section
variable {X : Cx} {W : WX} {a tg : Expr} {fa : E} {p pos tpos : Pos} {elts : List Expr} {kk : Nat}
theorem i_num (hg : Gl X "enumerate") (hm : X.mg "enumerate" = none) (ha : PEs X W a fa) (hs : PySem.starEach [a] X.env = (false, PySem.eval a X.env) :: PySem.starEach [] X.env := by rfl) :
    PIs X W (.Tuple elts kk tpos) (.Call (.Name "enumerate" p) [a] [] pos) (iNumS seqV fa) := PI.weak (SMN.pi_num hg hm ha hs) fun σ H R ⟨w, r, h, e, Rr, k⟩ => by
  subst e
  refine ⟨w, r, h, rfl, Rr, EK.cutI (fun x h1 w1 v1 l1 R1 q1 k1 => ?_) k⟩
  split at k1
  · exact .inr ⟨_, q1, k1 w1 _ l1 R1 wk_numC⟩
  · split at k1
    · rename_i t xs dep hs
      obtain ⟨a, ea, st⟩ := seqSt_e R1 (owns_P (Rr.le l1 R1)) (owns_some Rr) q1 hs
      obtain ⟨ys, s, _⟩ := st w1 h1 LeS.refl R1 fun _ _ => rfl
      exact .inl ⟨a, t, ea, ⟨ys, s⟩, k1 w1 _ l1 R1 (wk_num st)⟩
    · exact k1.elim
theorem i_numE (hg : Gl X "enumerate") (hm : X.mg "enumerate" = none) (ha : PEs X W a fa) (hs : PySem.starEach [a] X.env = (false, PySem.eval a X.env) :: PySem.starEach [] X.env := by rfl) :
    PIe X W (.Tuple elts kk tpos) (.Call (.Name "enumerate" p) [a] [] pos) (iNumS seqE fa) := PI.weak (SMN.pi_num hg hm ha hs) fun σ H R ⟨w, r, h, e, Rr, k⟩ => by
  subst e
  refine ⟨w, r, h, rfl, Rr, EK.cutI (fun x h1 w1 v1 l1 R1 q1 k1 => ?_) k⟩
  split at k1
  · exact .inr ⟨_, q1, k1 w1 _ l1 R1 wk_numC⟩
  · split at k1
    · rename_i t xs dep hs
      obtain ⟨a, ea, st⟩ := seqSt_E R1 q1 hs
      obtain ⟨ys, s, _⟩ := st w1 h1 LeS.refl R1 fun _ _ => rfl
      exact .inl ⟨a, t, ea, ⟨ys, s⟩, k1 w1 _ l1 R1 (wk_num st)⟩
    · exact k1.elim
theorem i_rev (hg : Gl X "reversed") (hm : X.mg "reversed" = none) (ha : PEs X W a fa) (hs : PySem.starEach [a] X.env = (false, PySem.eval a X.env) :: PySem.starEach [] X.env := by rfl) :
    PIs X W tg (.Call (.Name "reversed" p) [a] [] pos) (iRevS seqV fa) := PI.weak (RT.pi_revA hg hm ha hs) fun σ H R ⟨w, r, h, e, Rr, k⟩ => by
  subst e
  refine ⟨w, r, h, rfl, Rr, EK.cutI (fun x h1 w1 v1 l1 R1 q1 k1 => ?_) k⟩
  split at k1
  · rename_i t xs dep hs
    obtain ⟨a, ea, st⟩ := seqSt_e R1 (owns_P (Rr.le l1 R1)) (owns_some Rr) q1 hs
    obtain ⟨ys, s, qs⟩ := st w1 h1 LeS.refl R1 fun _ _ => rfl
    have kk := k1 w1 _ l1 R1 (wk_rev qs.length.symm st)
    cases t with
    | false => exact ⟨a, ys, ea, .inl ⟨s, kk⟩⟩
    | true => exact ⟨a, ys, ea, .inr ⟨s, kk⟩⟩
  · exact k1.elim
theorem i_revE (hg : Gl X "reversed") (hm : X.mg "reversed" = none) (ha : PEs X W a fa) (hs : PySem.starEach [a] X.env = (false, PySem.eval a X.env) :: PySem.starEach [] X.env := by rfl) :
    PIe X W tg (.Call (.Name "reversed" p) [a] [] pos) (iRevS seqE fa) := PI.weak (RT.pi_revA hg hm ha hs) fun σ H R ⟨w, r, h, e, Rr, k⟩ => by
  subst e
  refine ⟨w, r, h, rfl, Rr, EK.cutI (fun x h1 w1 v1 l1 R1 q1 k1 => ?_) k⟩
  split at k1
  · rename_i t xs dep hs
    obtain ⟨a, ea, st⟩ := seqSt_E R1 q1 hs
    obtain ⟨ys, s, qs⟩ := st w1 h1 LeS.refl R1 fun _ _ => rfl
    have kk := k1 w1 _ l1 R1 (wk_rev qs.length.symm st)
    cases t with
    | false => exact ⟨a, ys, ea, .inl ⟨s, kk⟩⟩
    | true => exact ⟨a, ys, ea, .inr ⟨s, kk⟩⟩
  · exact k1.elim
theorem s_isqrt (hg : Gl X "isqrt") (hm : X.mg "isqrt" = some (.builtin "math.isqrt")) (ha : PEs X W a fa) (hs : PySem.starEach [a] X.env = (false, PySem.eval a X.env) :: PySem.starEach [] X.env := by rfl) : PEs X W (.Call (.Name "isqrt" p) [a] [] pos) (e1 fIsqrt fa) := PE.weak (pe_callBfun SMN.cr_isq hg hm (pa_cons ha pa_nil hs) (by decide) hs) (c1_cut fun w w0 h x z vx Q R qx e k => by
  unfold fIsqrt at e
  split at e
  · rename_i i
    split at e
    · rename_i c
      cases e
      have e1 : vx = .int i := qx
      subst e1
      exact ⟨i, rfl, c.1, c.2, k w _ (Le.refl w) R rfl⟩
    · cases e
  · cases e)
end
end SM

/-! SMLc2: comprehensions with two clauses, the second over a range. -/
namespace SM
open PySem (Str Expr Stmt Pos Operator CmpOp Scope)
open L2 hiding St tB tAnd tOr tNot iRng1 iRng2
def allV (r : Env) : Bool := r.all fun x => match x with
  | some (.v _) => true
  | none => true
  | _ => false
noncomputable def lcIn (g : Tg) (c : T) (e : E) (r : Env) (k : List Val → Heap → EO RV) : List Val → List Val → Heap → EO RV
  | [], acc, h => k acc h
  | x :: xs, acc, h => match g.put x r with
    | some r1 => match c r1 h with
      | .ok true h1 => match e r1 h1 with
        | .ok y h2 => match y.keep with
          | some z => if acc.length < line then lcIn g c e r k xs (acc ++ [z]) h2 else .no
          | none => .no
        | _ => .no
      | .ok false h1 => lcIn g c e r k xs acc h1
      | _ => .no
    | none => .no
noncomputable def lc2Go (g : Tg) (it1 : I) (g1 : Tg) (vs1 : List Nat) (c : T) (e : E) (r : Env) (dep : List Nat) (h0 : Heap) : List Val → List Val → Heap → EO RV
  | [], acc, h => chkE dep h0 h (.ok (.own acc) h)
  | x :: xs, acc, h => chkE dep h0 h (match g.put x r with
    | some r1 => if allV r1 = true then match it1 r1 h with
        | .ok (zs, []) h2 => lcIn g1 c e (wipeE r1 vs1) (fun acc h => lc2Go g it1 g1 vs1 c e r dep h0 xs acc h) zs acc h2
        | _ => .no
      else .no
    | none => .no)
/-- [e for g in it for g1 in it1 if c] -/
noncomputable def eLc2 (own vs1 : List Nat) (g : Tg) (it : I) (g1 : Tg) (it1 : I) (c : T) (e : E) : E := fun r h => (it r h).bind fun p h1 => lc2Go g it1 g1 vs1 c e (wipeE r own) p.2 h1 p.1 [] h1
/-- an iterable that no list leads -/
def tIt (K : Frag) (mg : Mg) (W : WX) (f : I) : TI := fun σ H R => ∃ w r h, w.H = H ∧ Rel K mg w r h σ ∧ IK K mg W (fun _ => True) w σ R (f r h)
theorem i_rng1T {X : Cx} {W : WX} {p pos : Pos} {a tg : Expr} {fa : E} (hg : Gl X "range") (hm : X.mg "range" = none) (ha : PEs X W a fa) (hs : PySem.starEach [a] X.env = (false, PySem.eval a X.env) :: PySem.starEach [] X.env := by rfl) : PI X tg (.Call (.Name "range" p) [a] [] pos) (tIt X.K X.mg W (iRng1 fa)) :=
  PI.weak (pi_range1 hg hm (pa_cons ha pa_nil hs) hs) fun σ H R ⟨w, r, h, e, Rr, k⟩ => by
    subst e
    refine ⟨w, r, h, rfl, Rr, EK.cutI (fun x h1 w1 v1 l1 R1 q1 k1 => ?_) k⟩
    split at k1
    · rename_i j
      have e1 : v1 = .int j := q1
      subst e1
      split at k1
      · rename_i c
        exact ⟨j, rfl, c.1, c.2, k1 w1 _ l1 R1 wk_range⟩
      · exact k1.elim
    · exact k1.elim
section
variable {K : Frag} {mg : Mg} {w : Rw} {r : Env} {h : Heap} {σ : L2.St} {D : Addr} {ys : List V}
theorem allV_at (hv : allV r = true) {i : Nat} {x : RV} (e : r[i]? = some (some x)) : ∃ v, x = .v v := by
  have := List.all_eq_true.mp hv (some x) (List.mem_of_getElem? e)
  cases x with
  | v v => exact ⟨v, rfl⟩
  | own _ => cases this
  | view _ => cases this
theorem Rel.updV (R : Rel K mg w r h σ) (hv : allV r = true) (hl : w.P D) (u : w.out D) : Rel K mg (w.updO D ys) r h σ :=
  ⟨R.hp.updO hl u, R.len, fun i x e => by
    obtain ⟨v, ev, s⟩ := R.sl i x e
    obtain ⟨z, rfl⟩ := allV_at hv e
    exact ⟨v, ev, RVal.updO hl s⟩, fun i j xs zs a e1 e2 _ _ => by
    obtain ⟨z, ez⟩ := allV_at hv e1
    cases ez⟩
theorem LeT.trans {w1 w2 : Rw} (l : LeS (fun _ => True) w w1) (m : LeS (fun _ => True) w1 w2) : LeS (fun _ => True) w w2 := LeS.trans l m fun _ _ => .inl trivial
theorem LeT.updO (u : True) : LeS (fun _ => True) w (w.updO D ys) := ⟨Nat.le_refl _, fun _ _ => rfl, fun _ _ _ _ z => absurd trivial z, fun b o e => by
    by_cases z : b = D
    · exact ⟨.lst ys, by rw [z]; exact upd_same⟩
    · exact ⟨o, (upd_ne z).trans e⟩, fun _ _ _ z => z, fun _ _ _ z => absurd trivial z, fun k h1 h2 => absurd h2 (Nat.not_lt.mpr h1)⟩
end
section
variable {X : Cx} {W : WX} {pos : Pos} {elt tg iter tg1 iter1 : Expr} {ifs : List Expr} {scope : Scope} {own : List (Str × Nat)} {g g1 : Tg} {it it1 : I} {c : T} {fe : E} {vs1 : List Nat}
theorem lc2_cut {K : Frag} {mg : Mg} (hsl : ∀ i, i ∈ g.slots → i ∈ own.map (·.2)) (hsl1 : ∀ i, i ∈ g1.slots → i ∈ vs1) : ∀ σ H Q, tE K mg W (eLc2 (own.map (·.2)) vs1 g it g1 it1 c fe) σ H Q →
    tLc2 (tIe K mg W it) (tG K mg g) (tT K mg W0 tYes) (tIt K mg W0 it1) (tG K mg g1) (tT K mg W0 c) (tE K mg W0 fe) (own.map (·.2)) vs1 σ H Q := fun σ H Q ⟨w, r, h, eH, R, k⟩ => by
  subst eH
  generalize own.map (·.2) = vs at *
  refine ⟨w, r, h, rfl, R, ?_⟩
  have k : EK K mg W w σ Q ((it r h).bind fun p h1 => lc2Go g it1 g1 vs1 c fe (wipeE r vs) p.2 h1 p.1 [] h1) := k
  cases hit : it r h with
  | no =>
    rw [hit] at k
    exact k.elim
  | ex e h1 =>
    rw [hit] at k
    exact k
  | ok p h1 =>
    rw [hit] at k
    obtain ⟨xs, dep⟩ := p
    have k : EK K mg W w σ Q (lc2Go g it1 g1 vs1 c fe (wipeE r vs) dep h1 xs [] h1) := k
    intro w' J l R' wk D hD
    have wk : Wk K mg (fun _ => False) w' h1 J xs dep := wk
    have hDw : w.H D = none := l.fresh hD
    refine ⟨fun i m H2 => m = xs.length - i ∧ i ≤ xs.length ∧ ∃ w2 h2 acc ys, w2.H = H2 ∧ Le w' w2 ∧ RHp K mg w2 h2 ∧ w2.H D = some (.lst ys) ∧ RVals K w2 acc ys ∧ w2.P D ∧ w2.out D ∧ EK K mg W w σ Q (lc2Go g it1 g1 vs1 c fe (wipeE r vs) dep h1 (xs.drop i) acc h2),
      ⟨xs.length, by simp, Nat.zero_le _, w'.newL D [], h1, [], [], rfl, Le.newL hD R', R'.newL hD, upd_same, rfl, .inl rfl, R'.outN hD, k⟩, ?_⟩
    rintro i m H2 ⟨em, hi, w2, h2, acc, ys, rfl, l2, R2, eD, qa, pD, uD, k2⟩
    by_cases hlt : i < xs.length
    · have hd0 : xs.drop i = xs[i] :: xs.drop (i + 1) := List.drop_eq_getElem_cons hlt
      rw [hd0] at k2
      obtain ⟨sm, k2⟩ := chkE_EK k2
      obtain ⟨go, stop, yld⟩ := wk w2 h2 l2.s R2 sm
      refine .inr ⟨go i hlt, fun H3 => ∃ w3 h3 acc3 ys3, w3.H = H3 ∧ Le w' w3 ∧ RHp K mg w3 h3 ∧ w3.H D = some (.lst ys3) ∧ RVals K w3 acc3 ys3 ∧ w3.P D ∧ w3.out D ∧ EK K mg W w σ Q (lc2Go g it1 g1 vs1 c fe (wipeE r vs) dep h1 (xs.drop (i + 1)) acc3 h3),
        fun H' z => ⟨xs.length - (i + 1), by omega, rfl, hlt, z⟩, fun x H' y => ?_⟩
      obtain ⟨w3, v, rfl, l3, R3, hv, qv⟩ := yld i x H' hlt y
      have ev : xs[i] = v := by
        rw [List.getElem?_eq_getElem hlt] at hv
        exact Option.some.inj hv
      rw [ev] at k2
      cases hp : g.put v (wipeE r vs) with
      | none =>
        rw [hp] at k2
        exact k2.elim
      | some r1 =>
        rw [hp] at k2
        have RW : Rel K mg w3 (wipeE r vs) h2 (wipe σ vs) := ((R.le l R').le (l2.trans l3) R3).wipe vs
        refine ⟨w3, _, w3, wipeE r vs, h2, v, r1, rfl, RW.self, qv, hp, fun σ1 RA1 hw => ⟨(hw vs hsl).trans (wipe_wipe σ vs), ?_⟩⟩
        refine ⟨w3, r1, h2, rfl, RA1.rel, ?_⟩
        intro w4 l4 R4
        rw [if_pos rfl]
        have e4 : w4.H D = some (.lst ys) := l4.keep D _ (l3.keep D _ eD uD) (l3.out eD uD)
        have u3 : w3.out D := l3.out eD uD
        have u4 : w4.out D := l4.out (l3.keep D _ eD uD) u3
        have p4 : w4.P D := (l4.P D _ (l3.keep D _ eD uD)).mpr ((l3.P D _ eD).mpr pD)
        have R14 := RA1.rel.le l4 R4
        have l24 := l3.trans l4
        have qa4 := qa.le R2 l24
        have k2 : EK K mg W w σ Q (if allV r1 = true then match it1 r1 h2 with
          | .ok (zs, []) h2 => lcIn g1 c fe (wipeE r1 vs1) (fun acc h => lc2Go g it1 g1 vs1 c fe (wipeE r vs) dep h1 (xs.drop (i + 1)) acc h) zs acc h2
          | _ => .no else .no) := k2
        split at k2
        · rename_i hav
          refine ⟨w4, r1, h2, rfl, R14, ?_⟩
          cases hi1 : it1 r1 h2 with
          | no =>
            rw [hi1] at k2
            exact k2.elim
          | ex e h4 =>
            rw [hi1] at k2
            exact k2.elim
          | ok p h5 =>
            rw [hi1] at k2
            obtain ⟨zs, dep1⟩ := p
            cases dep1 with
            | cons n ns => exact k2.elim
            | nil =>
              intro w5 J1 l5 R5 wk1
              have wk1 : Wk K mg (fun _ => True) w5 h5 J1 zs [] := wk1
              have k2 : EK K mg W w σ Q (lcIn g1 c fe (wipeE r1 vs1) (fun acc h => lc2Go g it1 g1 vs1 c fe (wipeE r vs) dep h1 (xs.drop (i + 1)) acc h) zs acc h5) := k2
              refine ⟨fun j m H2 => m = zs.length - j ∧ j ≤ zs.length ∧ ∃ w6 h6 acc6 ys6, w6.H = H2 ∧ Le w' w6 ∧ LeS (fun _ => True) w5 w6 ∧ Rel K mg w6 r1 h6 σ1 ∧ w6.H D = some (.lst ys6) ∧ RVals K w6 acc6 ys6 ∧ w6.P D ∧ w6.out D ∧
                  EK K mg W w σ Q (lcIn g1 c fe (wipeE r1 vs1) (fun acc h => lc2Go g it1 g1 vs1 c fe (wipeE r vs) dep h1 (xs.drop (i + 1)) acc h) (zs.drop j) acc6 h6),
                ⟨zs.length, by simp, Nat.zero_le _, w5, h5, acc, ys, rfl, (l2.trans l24).trans l5, LeS.refl, R14.le l5 R5, l5.keep D _ e4 u4, qa4.le R4 l5, (l5.P D _ e4).mpr p4, l5.out e4 u4, k2⟩, ?_⟩
              rintro j m1 H3 ⟨em1, hj, w6, h6, acc6, ys6, rfl, l6, s6, R6, e6, qa6, p6, u6, k3⟩
              by_cases hjl : j < zs.length
              · have hd1 : zs.drop j = zs[j] :: zs.drop (j + 1) := List.drop_eq_getElem_cons hjl
                rw [hd1] at k3
                obtain ⟨go1, stop1, yld1⟩ := wk1 w6 h6 s6 R6.hp fun n hn => by cases hn
                refine .inr ⟨go1 j hjl, fun H3 => ∃ w7 h7 acc7 ys7, w7.H = H3 ∧ Le w' w7 ∧ LeS (fun _ => True) w5 w7 ∧ Rel K mg w7 r1 h7 σ1 ∧ w7.H D = some (.lst ys7) ∧ RVals K w7 acc7 ys7 ∧ w7.P D ∧ w7.out D ∧
                    EK K mg W w σ Q (lcIn g1 c fe (wipeE r1 vs1) (fun acc h => lc2Go g it1 g1 vs1 c fe (wipeE r vs) dep h1 (xs.drop (i + 1)) acc h) (zs.drop (j + 1)) acc7 h7),
                  fun H' z => ⟨zs.length - (j + 1), by omega, rfl, hjl, z⟩, fun x H' y => ?_⟩
                obtain ⟨w7, v7, rfl, l7, R7, hv7, qv7⟩ := yld1 j x H' hjl y
                have ev7 : zs[j] = v7 := by
                  rw [List.getElem?_eq_getElem hjl] at hv7
                  exact Option.some.inj hv7
                rw [ev7] at k3
                have k3 : EK K mg W w σ Q (match g1.put v7 (wipeE r1 vs1) with
                  | some r1' => match c r1' h6 with
                    | .ok true h1' => match fe r1' h1' with
                      | .ok y h2 => match y.keep with
                        | some z => if acc6.length < line then lcIn g1 c fe (wipeE r1 vs1) (fun acc h => lc2Go g it1 g1 vs1 c fe (wipeE r vs) dep h1 (xs.drop (i + 1)) acc h) (zs.drop (j + 1)) (acc6 ++ [z]) h2 else .no
                        | none => .no
                      | _ => .no
                    | .ok false h1' => lcIn g1 c fe (wipeE r1 vs1) (fun acc h => lc2Go g it1 g1 vs1 c fe (wipeE r vs) dep h1 (xs.drop (i + 1)) acc h) (zs.drop (j + 1)) acc6 h1'
                    | _ => .no
                  | none => .no) := k3
                cases hp2 : g1.put v7 (wipeE r1 vs1) with
                | none =>
                  simp only [hp2] at k3
                  exact k3.elim
                | some r2 =>
                  simp only [hp2] at k3
                  have R67 := R6.le l7 R7
                  have RW7 : Rel K mg w7 (wipeE r1 vs1) h6 (wipe σ1 vs1) := R67.wipe vs1
                  refine ⟨w7, _, w7, wipeE r1 vs1, h6, v7, r2, rfl, RW7.self, qv7, hp2, fun σ2 RA2 hw2 => ⟨(hw2 vs1 hsl1).trans (wipe_wipe σ1 vs1), ?_⟩⟩
                  refine ⟨w7, r2, h6, rfl, RA2.rel, ?_⟩
                  have e7 : w7.H D = some (.lst ys6) := l7.keep D _ e6 u6
                  have u7 : w7.out D := l7.out e6 u6
                  have p7 : w7.P D := (l7.P D _ e6).mpr p6
                  cases hc : c r2 h6 with
                  | no =>
                    simp only [hc] at k3
                    exact k3.elim
                  | ex e h8 =>
                    simp only [hc] at k3
                    exact k3.elim
                  | ok b h8 =>
                    simp only [hc] at k3
                    intro w8 l8 R8
                    have e8 : w8.H D = some (.lst ys6) := l8.keep D _ e7 u7
                    have u8 : w8.out D := l8.out e7 u7
                    have p8 : w8.P D := (l8.P D _ e7).mpr p7
                    have l78 := l7.trans l8
                    cases b with
                    | false =>
                      rw [if_neg Bool.false_ne_true]
                      exact ⟨w8, h8, acc6, ys6, rfl, l6.trans l78, LeT.trans s6 l78.s, R67.le l8 R8, e8, qa6.le R6.hp l78, p8, u8, k3⟩
                    | true =>
                      rw [if_pos rfl]
                      refine ⟨w8, r2, h8, rfl, RA2.rel.le l8 R8, ?_⟩
                      cases hf : fe r2 h8 with
                      | no =>
                        simp only [hf] at k3
                        exact k3.elim
                      | ex e h9 =>
                        simp only [hf] at k3
                        exact k3.elim
                      | ok y h9 =>
                        simp only [hf] at k3
                        intro w9 v9 l9 R9 q9
                        cases hk : y.keep with
                        | none =>
                          simp only [hk] at k3
                          exact k3.elim
                        | some z =>
                          simp only [hk] at k3
                          split at k3
                          · rename_i hroom
                            have e9 : w9.H D = some (.lst ys6) := l9.keep D _ e8 u8
                            obtain ⟨w10, eH10, l10, R10, q10⟩ := q9.keep R9 l9 hk
                            have e10 : w10.H D = some (.lst ys6) := l10.keep D _ e8 u8
                            have u10 : w10.out D := l10.out e8 u8
                            have p10 : w10.P D := (l10.P D _ e8).mpr p8
                            have l710 := l78.trans l10
                            refine ⟨ys6, e9, by rw [← qa6.length]; exact hroom, ?_⟩
                            refine ⟨w10.updO D (ys6 ++ [v9]), h9, acc6 ++ [z], ys6 ++ [v9], ?_, ?_, LeT.trans (LeT.trans s6 l710.s) (LeT.updO trivial), Rel.updV ((R67.le l8 R8).le l10 R10) hav p10 u10, upd_same, ?_, p10, u10, k3⟩
                            · show upd w10.H D _ = upd w9.H D _
                              rw [eH10]
                            · have l' := l6.trans l710
                              exact ⟨l'.n, l'.io, fun b o e u => (upd_ne (ne_of_none e hD)).trans (l'.keep b o e u), fun b o e => by
                                obtain ⟨o', e'⟩ := l'.there b o e
                                exact ⟨o', (upd_ne (ne_of_none e hD)).trans e'⟩, l'.P, l'.new⟩
                            · exact ((qa6.le R6.hp l710).append (RVals.one q10)).updO p10
                          · exact k3.elim
              · have ej : j = zs.length := by omega
                subst ej
                rw [List.drop_length] at k3
                obtain ⟨go1, stop1, yld1⟩ := wk1 w6 h6 s6 R6.hp fun n hn => by cases hn
                exact .inl ⟨stop1, w6, h6, acc6, ys6, rfl, l6, R6.hp, e6, qa6, p6, u6, k3⟩
        · exact k2.elim
    · have e : i = xs.length := by omega
      subst e
      rw [List.drop_length] at k2
      obtain ⟨sm, k2⟩ := chkE_EK k2
      obtain ⟨go, stop, yld⟩ := wk w2 h2 l2.s R2 sm
      refine .inl ⟨stop, ?_⟩
      exact k2 w2 (.ref D) (l.trans l2) R2 ⟨D, ys, rfl, hDw, eD, qa, pD, uD⟩
theorem s_lc2 (hc : X.calm = true) (hN : X.N.Nodup) (ok : BlkOk X.N X.env.scope scope own) (hv : ∀ i ∈ vs1, i ∈ own.map (·.2)) (hi : PIe X W tg iter it) (hsl : ∀ i, i ∈ g.slots → i ∈ own.map (·.2)) (hsl1 : ∀ i, i ∈ g1.slots → i ∈ vs1)
    (hg : ∀ (s : PySem.Shared) (H : Hp) (C : Addr) (cl : List (Str × Addr)) (fp : List Addr), PGt (X.blk s H scope (PySem.compEnvC scope cl C X.env) fp) tg g)
    (hi1 : ∀ (s : PySem.Shared) (H : Hp) (C : Addr) (cl : List (Str × Addr)) (fp : List Addr), PI (X.blk s H scope (PySem.compEnvC scope cl C X.env) fp) tg1 iter1 (tIt X.K X.mg W0 it1))
    (hg1 : ∀ (s : PySem.Shared) (H : Hp) (C : Addr) (cl : List (Str × Addr)) (fp : List Addr), PGt (X.blk s H scope (PySem.compEnvC scope cl C X.env) fp) tg1 g1)
    (ht : ∀ (s : PySem.Shared) (H : Hp) (C : Addr) (cl : List (Str × Addr)) (fp : List Addr), PTs (X.blk s H scope (PySem.compEnvC scope cl C X.env) fp) ifs (tT X.K X.mg W0 c))
    (he : ∀ (s : PySem.Shared) (H : Hp) (C : Addr) (cl : List (Str × Addr)) (fp : List Addr), PEs (X.blk s H scope (PySem.compEnvC scope cl C X.env) fp) W0 elt fe)
    (hs : ∀ x, PySem.foldedSetIterable iter X.env x = pure x := by intro _; rfl) (hs1 : ∀ env x, PySem.foldedSetIterable iter1 env x = pure x := by intro _ _; rfl) : PEs X W (.ListComp elt [⟨tg, iter, [], 0⟩, ⟨tg1, iter1, ifs, 0⟩] scope pos) (eLc2 (own.map (·.2)) vs1 g it g1 it1 c fe) :=
  PE.weak (pe_lc2 hc hN hi ok hv hg (fun _ _ _ _ _ => t_yes) hi1 hg1 ht he hs hs1) (lc2_cut hsl hsl1)
end
end SM
/-! ### parameters with defaults, given by place -/
namespace SM
open PySem (Str Expr Stmt Pos Operator CmpOp Scope)
open L2 hiding St tB tAnd tOr tNot iRng1 iRng2
section
variable {K : Frag} {x qual : Str} {params : PySem.Arguments} {body : List Stmt} {scope : Scope} {dvs : List V} {f : Addr} {fd : PySem.FuncData} {ps : List Str} {n : Nat} {ds : List RV}
theorem kb_D (F : FunD K x qual params body scope dvs [] f fd) (j : Nat) (hk : dvs ≠ []) (hd : DflR K ds (dvs.drop j)) (hN : n + (0 + ds.length) = ps.length)
    (h : ∀ (T : Addr) (kV doc pm : PySem.Value) (an : Option Addr) (cdv ct : PySem.Value) (us its : List PySem.Value), us.length = n → its.length = dvs.length →
      ∃ k, PySem.bindArgs (PySem.W.fnOf x qual params body scope (.ref T) kV doc pm an cdv ct) ⟨us, []⟩ = PySem.seqItems? (.ref T) >>= k ∧ k (some its.toArray) = pure (ps.zip (us ++ its.drop j))) : KbOk K fd ps n [] (arA ds) := by
  obtain ⟨its, hb⟩ := F.kbindsD n [] (fun us its ws => us ++ (ws ++ its.drop j)) hk (fun r1 r2 r3 => r1.append (r3.append (r2.drop j))) fun T kV doc pm an cdv ct us its ws l1 l2 l3 => by
    have e : ws = [] := List.eq_nil_of_length_eq_zero l3
    subst e
    exact h T kV doc pm an cdv ct us its l1 l2
  exact ⟨⟨_, _, hb, fun w xs vs zs us q1 q2 => q1.append (q2.append (hd w))⟩, arr_A hN⟩
theorem kb_F (F : FunD K x qual params body scope dvs [] f fd) (hk : dvs ≠ []) (hN : n = ps.length)
    (h : ∀ (T : Addr) (kV doc pm : PySem.Value) (an : Option Addr) (cdv ct : PySem.Value) (us : List PySem.Value), us.length = n → PySem.bindArgs (PySem.W.fnOf x qual params body scope (.ref T) kV doc pm an cdv ct) ⟨us, []⟩ = pure (ps.zip us)) : KbOk K fd ps n [] (arA []) := by
  obtain ⟨oc, od, dV, kV, doc, pm, an, cdv, ct, osl, rfl, lk, hcd, hD, hK⟩ := F.ex
  rcases hD with ⟨e, _⟩ | ⟨_, T, o, its, m, rfl, lT, oT, rT⟩
  · exact absurd e hk
  · refine ⟨⟨fun us ws => us ++ (ws ++ []), fun vs zs => vs ++ (zs ++ []), ⟨fun s us ws X l1 l2 => ?_, fun r1 r2 => r1.append (r2.append .nil)⟩, fun w xs vs zs us q1 q2 => q1.append (q2.append rfl)⟩, arr_A (by rw [hN]; rfl)⟩
    have e : ws = [] := List.eq_nil_of_length_eq_zero l2
    subst e
    have := BindsTo.of_looks (s := s) (args := ⟨us, []⟩) (binds := ps.zip us) fun M => PySem.W.Looks.of_pure (h T kV doc pm an cdv ct us l1)
    show PySem.BindsTo s _ ⟨us, []⟩ (ps.zip (us ++ ([] ++ [])))
    rw [List.append_nil, List.append_nil]
    exact this
/-- a def with defaults, as the top has left it -/
theorem funD_pos {T : Addr} {oc doc pm cdv ct kV : PySem.Value} {od an : Option Addr} {osl : Array (Option PySem.Value)} {o : PySem.Obj} {its : List PySem.Value} {m : Nat} (l : K.lookup f = some ⟨oc, od, .func (PySem.W.fnOf x qual params body scope (.ref T) kV doc pm an cdv ct), osl⟩) (c : PySem.W.codeIn K cdv qual = true) (e : PySem.W.keepIn K (.ref f) = true)
    (lT : K.lookup T = some o) (oT : o.data = .seq its.toArray m) (hk : dvs ≠ []) (rv : Vals dvs its) : FunD K x qual params body scope dvs [] f (PySem.W.fnOf x qual params body scope (.ref T) kV doc pm an cdv ct) :=
  ⟨⟨oc, od, .ref T, kV, doc, pm, an, cdv, ct, osl, rfl, l, c, .inr ⟨hk, T, o, its, m, rfl, lT, oT, rv⟩, .inl rfl⟩, e⟩
end
def fuel : Nat := 1000000
end SM

/-! SMWh: while loops; numbered and reversed lists of numbers; two clauses over numbers. -/
namespace SM
open PySem (Str)
theorem while_ok {c : T} {b : S} (P : Nat → Env → Heap → Prop) (z : ∀ r h, P 0 r h → c r h = .ok false h) (s : ∀ k r h, P (k + 1) r h → c r h = .ok true h ∧ ∃ r2 h2, b r h = .nx r2 h2 ∧ P k r2 h2) :
    ∀ (k n : Nat) (r : Env) (h : Heap), k < n → P k r h → ∃ r2 h2, sWhile c b n r h = .nx r2 h2 ∧ P 0 r2 h2
  | 0, n + 1, r, h, _, p => ⟨r, h, by
    rw [q_sWhile, z r h p]
    rfl, p⟩
  | k + 1, n + 1, r, h, hk, p => by
    obtain ⟨e, r2, h2, e2, p2⟩ := s k r h p
    obtain ⟨r3, h3, e3, p3⟩ := while_ok P z s k n r2 h2 (by omega) p2
    refine ⟨r3, h3, ?_, p3⟩
    rw [q_sWhile, e]
    show (b r h).turn (sWhile c b n) = _
    rw [e2]
    exact e3
theorem wh_fuel {c : T} {b : S} (P : Nat → Env → Heap → Prop) (z : ∀ r h, P 0 r h → c r h = .ok false h) (s : ∀ k r h, P (k + 1) r h → c r h = .ok true h ∧ ∃ r2 h2, b r h = .nx r2 h2 ∧ P k r2 h2) {k : Nat} {r : Env} {h : Heap} (hk : k < 1000000) (p : P k r h) : ∃ r2 h2, sWhile c b fuel r h = .nx r2 h2 ∧ P 0 r2 h2 :=
  while_ok P z s k fuel r h hk p
theorem rev_o {a : E} {r : Env} {h h1 : Heap} {xs : List Val} (e : a r h = .ok (.own xs) h1) : iRevS seqV a r h = .ok (xs.reverse, []) h1 := by
  unfold iRevS
  rw [e]
  rfl
theorem num_t {a : E} {r : Env} {h h1 : Heap} {xs : List Val} (e : a r h = .ok (.v (.tup xs)) h1) : iNumS seqV a r h = .ok (numd 0 xs, []) h1 := by
  unfold iNumS
  rw [e]
  rfl
theorem lcIn_nat {s : Nat} {e : E} {r : Env} {k : List Val → Heap → EO RV} {h : Heap} (F : Nat → Nat) : ∀ (ns : List Nat) (acc : List Nat), (∀ i, i ∈ ns → e (r.set s (some (.v (.int (i : Int))))) h = .ok (.v (.int (F i : Nat))) h) → acc.length + ns.length ≤ 16777216 →
    lcIn (.nm s) tYes e r k (vNats ns) (vNats acc) h = k (vNats (acc ++ ns.map F)) h
  | [], acc, _, _ => by rw [List.map_nil, List.append_nil]; rfl
  | i :: ns, acc, st, hl => by
    have e1 := st i List.mem_cons_self
    have ih := lcIn_nat (s := s) (e := e) (r := r) (k := k) (h := h) F ns (acc ++ [F i]) (fun j hj => st j (List.mem_cons_of_mem _ hj)) (by rw [List.length_append]; rw [List.length_cons] at hl; show acc.length + 1 + _ ≤ _; omega)
    have la : (vNats acc).length < line := by rw [nats_len]; rw [List.length_cons] at hl; show acc.length < 16777216; omega
    show (match e (r.set s (some (.v (.int (i : Int))))) h with
      | .ok y h2 => match y.keep with
        | some z => if (vNats acc).length < line then lcIn (.nm s) tYes e r k (vNats ns) (vNats acc ++ [z]) h2 else .no
        | none => .no
      | _ => .no) = _
    rw [e1]
    show (if (vNats acc).length < line then lcIn (.nm s) tYes e r k (vNats ns) (vNats acc ++ [.int (F i : Nat)]) h else .no) = _
    rw [if_pos la, nats_app1, ih, List.map_cons, List.append_assoc]
    rfl
theorem lc2_nat {own : List Nat} {s s1 : Nat} {it it1 : I} {e : E} {r : Env} {h h1 : Heap} {ws ks : List Nat} (F : Nat → Nat → Nat) (hi : it r h = .ok (vNats ws, []) h1)
    (hi1 : ∀ w, w ∈ ws → allV ((wipeE r own).set s (some (.v (.int (w : Int))))) = true ∧ it1 ((wipeE r own).set s (some (.v (.int (w : Int))))) h1 = .ok (vNats ks, []) h1)
    (st : ∀ w, w ∈ ws → ∀ i, i ∈ ks → e ((wipeE ((wipeE r own).set s (some (.v (.int (w : Int))))) [s1]).set s1 (some (.v (.int (i : Int))))) h1 = .ok (.v (.int (F w i : Nat))) h1) (hl : ws.length * ks.length ≤ 16777216) :
    eLc2 own [s1] (.nm s) it (.nm s1) it1 tYes e r h = .ok (.own (vNats (ws.flatMap fun w => ks.map (F w)))) h1 := by
  unfold eLc2
  rw [hi]
  have go : ∀ (zs : List Nat) (acc : List Nat), (∀ w, w ∈ zs → w ∈ ws) → acc.length + zs.length * ks.length ≤ 16777216 → lc2Go (.nm s) it1 (.nm s1) [s1] tYes e (wipeE r own) [] h1 (vNats zs) (vNats acc) h1 = .ok (.own (vNats (acc ++ zs.flatMap fun w => ks.map (F w)))) h1 := by
    intro zs
    induction zs with
    | nil =>
      intro acc _ _
      rw [List.flatMap_nil, List.append_nil]
      rfl
    | cons w zs ih =>
      intro acc hm hl
      obtain ⟨a1, a2⟩ := hi1 w (hm w List.mem_cons_self)
      rw [List.length_cons, Nat.add_mul, Nat.one_mul] at hl
      have e1 := lcIn_nat (s := s1) (e := e) (r := wipeE ((wipeE r own).set s (some (.v (.int (w : Int))))) [s1]) (k := fun acc h => lc2Go (.nm s) it1 (.nm s1) [s1] tYes e (wipeE r own) [] h1 (vNats zs) acc h) (h := h1) (F w) ks acc (st w (hm w List.mem_cons_self)) (by omega)
      show (if allV ((wipeE r own).set s (some (.v (.int (w : Int))))) = true then match it1 ((wipeE r own).set s (some (.v (.int (w : Int))))) h1 with
        | .ok (zs', []) h2 => lcIn (.nm s1) tYes e (wipeE ((wipeE r own).set s (some (.v (.int (w : Int))))) [s1]) (fun acc h => lc2Go (.nm s) it1 (.nm s1) [s1] tYes e (wipeE r own) [] h1 (vNats zs) acc h) zs' (vNats acc) h2
        | _ => .no else .no) = _
      rw [if_pos a1, a2]
      show lcIn _ _ _ _ _ _ _ _ = _
      rw [e1, ih (acc ++ ks.map (F w)) (fun x hx => hm x (List.mem_cons_of_mem _ hx)) (by rw [List.length_append, List.length_map]; omega), List.flatMap_cons, List.append_assoc]
  have := go ws [] (fun w hw => hw) (by rw [List.length_nil]; omega)
  rw [List.nil_append] at this
  exact this
end SM

/-! SMDct: dicts with texts as keys. -/
namespace SM
open PySem (Str Expr Stmt Pos Operator CmpOp Scope)
open L2 hiding St tB tAnd tOr tNot iRng1 iRng2 iRng3
def dval (kvs : List (L2.Key × Val)) (k : L2.Key) : Option Val := (kvs.find? fun p => decide (p.1 = k)).map (·.2)
def dput (kvs : List (L2.Key × Val)) (k : L2.Key) (x : Val) : List (L2.Key × Val) := if (kvs.any fun p => decide (p.1 = k)) = true then kvs.map (fun p => if p.1 = k then (p.1, x) else p) else kvs ++ [(k, x)]
def dmerge (kvs : List (L2.Key × Val)) : List (L2.Key × Val) := kvs.foldl (fun a p => dput a p.1 p.2) []
def fDGet : F2 := fun h x y => match x, y with
  | .v (.obj n), .v (.str s) => match h[n]? with
    | some (.dct kvs) => (dval kvs (.inr s)).map .v
    | _ => none
  | _, _ => none
def sDSet (o ix a : E) : S := fun r h => (a r h).then r fun x h1 => match x.keep with
  | some y => (o r h1).then r fun p h2 => match p with
    | .v (.obj m) => (ix r h2).then r fun j h3 => match j with
      | .v (.str s) => match h3[m]? with
        | some (.dct kvs) => if kvs.length < 1000 then .nx r (h3.set m (.dct (dput kvs (.inr s) y))) else .no
        | _ => .no
      | _ => .no
    | _ => .no
  | none => .no
def dGo (r : Env) : List (Str × E) → Heap → List (L2.Key × Val) → EO (List (L2.Key × Val))
  | [], h, acc => .ok acc h
  | (s, e) :: l, h, acc => (e r h).bind fun x h1 => match x.keep with
    | some y => dGo r l h1 (acc ++ [(.inr s, y)])
    | none => .no
def dFin (kvs : List (L2.Key × Val)) (h : Heap) : EO RV := if kvs.length ≤ 15 then .ok (.v (.obj h.length)) (h ++ [.dct (dmerge kvs)]) else .no
def eDict (l : List (Str × E)) : E := fun r h => (dGo r l h []).bind dFin
section
variable {K : Frag} {mg : Mg} {w w1 : Rw} {h : Heap}
theorem RKs.val {k : L2.Key} {x : Val} : ∀ {kvs : List (L2.Key × Val)} {gs : List (L2.Key × V)}, RKs K w kvs gs → dval kvs k = some x → ∃ v, valV gs k = some v ∧ RVal K w x v
  | [], _, _, e => by cases e
  | (f, y) :: kvs, gs, ⟨v, g2, eg, q1, q2⟩, e => by
    subst eg
    by_cases c : f = k
    · have e2 : dval ((f, y) :: kvs) k = some y := by unfold dval; simp [List.find?_cons, c]
      rw [e2] at e
      cases e
      exact ⟨v, valV_pos c, q1⟩
    · have e2 : dval ((f, y) :: kvs) k = dval kvs k := by unfold dval; simp [List.find?_cons, c]
      rw [e2] at e
      obtain ⟨u, eu, qu⟩ := RKs.val q2 e
      exact ⟨u, (valV_neg c).trans eu, qu⟩
theorem RKs.len : ∀ {kvs : List (L2.Key × Val)} {gs : List (L2.Key × V)}, RKs K w kvs gs → kvs.length = gs.length
  | [], _, q => by
    have e : _ = [] := q
    subst e
    rfl
  | _ :: _, _, ⟨_, _, eg, _, q2⟩ => by
    subst eg
    rw [List.length_cons, List.length_cons, RKs.len q2]
theorem RKs.any {k : L2.Key} : ∀ {kvs : List (L2.Key × Val)} {gs : List (L2.Key × V)}, RKs K w kvs gs → (kvs.any fun p => decide (p.1 = k)) = gs.any fun p => decide (p.1 = k)
  | [], _, q => by
    have e : _ = [] := q
    subst e
    rfl
  | _ :: _, _, ⟨_, _, eg, _, q2⟩ => by
    subst eg
    rw [List.any_cons, List.any_cons, RKs.any q2]
theorem RKs.one {k : L2.Key} {x : Val} {v : V} (q : RVal K w x v) : RKs K w [(k, x)] [(k, v)] := ⟨v, [], rfl, q, rfl⟩
theorem RKs.append : ∀ {kvs ls : List (L2.Key × Val)} {gs us : List (L2.Key × V)}, RKs K w kvs gs → RKs K w ls us → RKs K w (kvs ++ ls) (gs ++ us)
  | [], _, _, _, q, q2 => by
    have e : _ = [] := q
    subst e
    exact q2
  | _ :: _, _, _, _, ⟨y, g, eg, q1, q2⟩, q3 => by
    subst eg
    exact ⟨y, g ++ _, rfl, q1, RKs.append q2 q3⟩
theorem RKs.map {k : L2.Key} {x : Val} {v : V} (q : RVal K w x v) : ∀ {kvs : List (L2.Key × Val)} {gs : List (L2.Key × V)}, RKs K w kvs gs → RKs K w (kvs.map fun p => if p.1 = k then (p.1, x) else p) (gs.map fun p => if p.1 = k then (p.1, v) else p)
  | [], _, e => by
    have e : _ = [] := e
    subst e
    rfl
  | (f, y) :: kvs, _, ⟨u, g, eg, q1, q2⟩ => by
    subst eg
    rw [List.map_cons, List.map_cons]
    by_cases c : f = k
    · rw [if_pos c, if_pos c]
      exact ⟨v, _, rfl, q, RKs.map q q2⟩
    · rw [if_neg c, if_neg c]
      exact ⟨u, _, rfl, q1, RKs.map q q2⟩
theorem RKs.put {k : L2.Key} {x : Val} {v : V} {kvs : List (L2.Key × Val)} {gs : List (L2.Key × V)} (q : RKs K w kvs gs) (qx : RVal K w x v) : RKs K w (dput kvs k x) (putK gs k v) := by
  unfold dput putK
  rw [← q.any]
  split
  · exact q.map qx
  · exact q.append (RKs.one qx)
theorem RKs.merge : ∀ {kvs : List (L2.Key × Val)} {gs : List (L2.Key × V)} {as : List (L2.Key × Val)} {bs : List (L2.Key × V)}, RKs K w kvs gs → RKs K w as bs → RKs K w (kvs.foldl (fun a p => dput a p.1 p.2) as) (mergeK bs gs)
  | [], _, _, _, q, q2 => by
    have e : _ = [] := q
    subst e
    exact q2
  | (f, y) :: kvs, _, as, bs, ⟨v, g, eg, q1, q2⟩, q3 => by
    subst eg
    show RKs K w (kvs.foldl (fun a p => dput a p.1 p.2) (dput as f y)) (mergeK (putK bs f v) g)
    exact RKs.merge q2 (q3.put q1)
def Rw.newD (w : Rw) (p : Addr) : Rw := ⟨w.io, fun b => b = p ∨ w.P b, w.n, upd w.H p (.dK [])⟩
theorem Le.newD {p : Addr} (hp : w.H p = none) : Le w (w.newD p) where
  n := Nat.le_refl _
  io := fun _ _ => rfl
  keep := fun b o e _ => (upd_ne (ne_of_none e hp)).trans e
  there := fun b o e => ⟨o, (upd_ne (ne_of_none e hp)).trans e⟩
  P := fun b o e => ⟨fun z => z.elim (fun z => absurd z (ne_of_none e hp)) id, .inr⟩
  new := fun k h1 h2 => absurd h2 (Nat.not_lt.mpr h1)
theorem RHp.newD (R : RHp K mg w h) {p : Addr} (hp : w.H p = none) : RHp K mg (w.newD p) h :=
  R.laid (Le.newD hp) rfl rfl (fun b o e => (upd_ne (ne_of_none e hp)).trans e) fun b hb => hb.elim (fun z => .inr ⟨.dK [], by rw [z]; exact upd_same⟩) .inl
theorem RHp.updHo {l : Addr} {u : HO} (R : RHp K mg w h) (hl : w.P l) (o : w.out l) : RHp K mg (w.updH l u) h :=
  ⟨R.len, fun k x e => (R.obj k x e).updH hl (o k (by rw [← R.len]; exact (List.getElem?_eq_some_iff.mp e).1)), R.inj, R.inP, fun b hb => by
    by_cases z : b = l
    · exact ⟨u, by rw [z]; exact upd_same⟩
    · obtain ⟨x, e⟩ := R.ph b hb
      exact ⟨x, (upd_ne z).trans e⟩⟩
def dTrs (K : Frag) (mg : Mg) (W : WX) (l : List (Str × E)) : List (TE × TE) := l.map fun p => (tE K mg W (eC (.str p.1)), tE K mg W p.2)
theorem pairs_cut {W : WX} {σ : L2.St} {Q : VK} {r : Env} {p : Addr} (hp : w.H p = none) : ∀ (l : List (Str × E)) (w2 : Rw) (h2 : Heap) (acc : List (L2.Key × Val)) (gacc : List (L2.Key × V)), w2.H p = some (.dK []) → w2.P p → w2.out p → Le w w2 → Rel K mg w2 r h2 σ → RKs K w2 acc gacc → EK K mg W w σ Q ((dGo r l h2 acc).bind dFin) →
    ∀ G : List (V × V) → Hp → Prop, (∀ ps H3, (H3 p = some (.dK []) ∧ ∃ kvs : List (L2.Key × V), gacc.map (fun kv => (kV kv.1, kv.2)) ++ ps = kvs.map (fun kv => (kV kv.1, kv.2)) ∧ kvs.length ≤ 15 ∧ Q (.ref p) (upd H3 p (.dK (mergeK [] kvs)))) → G ps H3) → tPairs (dTrs K mg W l) σ w2.H G
  | [], w2, h2, acc, gacc, eD, pD, uD, l2, R, q, k, G, fin => by
    have k : EK K mg W w σ Q (if acc.length ≤ 15 then .ok (.v (.obj h2.length)) (h2 ++ [.dct (dmerge acc)]) else .no) := k
    split at k
    · rename_i c
      refine fin [] w2.H ⟨eD, gacc, by rw [List.append_nil], by rw [← q.len]; exact c, ?_⟩
      have R2 := R.hp.updHo (u := .dK (mergeK [] gacc)) pD uD
      have qd : RObj K mg (w2.updH p (.dK (mergeK [] gacc))) p (.dct (dmerge acc)) := ⟨_, upd_same, (RKs.merge q (as := []) (bs := []) rfl).updH pD⟩
      have lw : Le w (w2.updH p (.dK (mergeK [] gacc))) := ⟨l2.n, l2.io, fun b o e u => (upd_ne (ne_of_none e hp)).trans (l2.keep b o e u), fun b o e => by
        obtain ⟨o', e'⟩ := l2.there b o e
        exact ⟨o', (upd_ne (ne_of_none e hp)).trans e'⟩, l2.P, l2.new⟩
      have RG := R2.grow pD uD qd
      refine k ((w2.updH p (.dK (mergeK [] gacc))).grow p) (.ref p) (lw.grow hp) RG ⟨?_, ?_⟩
      · rw [R.hp.len]
        exact Nat.lt_succ_self _
      · rw [R.hp.len]
        exact congrArg V.ref (grow_at (w := w2.updH p (.dK (mergeK [] gacc))) (a := p)).symm
    · exact k.elim
  | (s, e) :: l, w2, h2, acc, gacc, eD, pD, uD, l2, R, q, k, G, fin => by
    refine ⟨w2, r, h2, rfl, R, fun w3 v3 l3 R3 q3 => ?_⟩
    have e3 : v3 = .str s := q3
    subst e3
    refine ⟨w3, r, h2, rfl, R.le l3 R3, ?_⟩
    have k : EK K mg W w σ Q (((e r h2).bind fun x h1 => match x.keep with
      | some y => dGo r l h1 (acc ++ [((Sum.inr s : L2.Key), y)])
      | none => .no).bind dFin) := k
    show EK K mg W w3 σ _ (e r h2)
    cases he : e r h2 with
    | no => rw [he] at k; exact k.elim
    | ex ee h3 =>
      rw [he] at k
      exact fun w' cls d l' hp' q' => k w' cls d ((l2.trans l3).trans l') hp' q'
    | ok x h3 =>
      rw [he] at k
      intro w4 v4 l4 R4 q4
      have k : EK K mg W w σ Q ((match x.keep with
        | some y => dGo r l h3 (acc ++ [((Sum.inr s : L2.Key), y)])
        | none => .no).bind dFin) := k
      cases hk : x.keep with
      | none => rw [hk] at k; exact k.elim
      | some y =>
        rw [hk] at k
        obtain ⟨w5, eH, l5, R5, q5⟩ := q4.keep R4 l4 hk
        have l35 := l3.trans l5
        have t := pairs_cut hp l w5 h3 (acc ++ [((Sum.inr s : L2.Key), y)]) (gacc ++ [((Sum.inr s : L2.Key), v4)]) (l35.keep p _ eD uD) ((l35.P p _ eD).mpr pD) (l35.out eD uD) (l2.trans l35) ((R.le l3 R3).le l5 R5) ((q.le R.hp l35).append (RKs.one q5)) k (fun ps H3 => G ((.str s, v4) :: ps) H3) fun ps H3 ⟨z1, kvs, z2, z3, z4⟩ => by
          refine fin _ H3 ⟨z1, kvs, ?_, z3, z4⟩
          rw [← z2, List.map_append, List.append_assoc]
          rfl
        rw [eH] at t
        exact t
theorem disp_cut {W : WX} {l : List (Str × E)} : ∀ σ H Q, tE K mg W (eDict l) σ H Q → tDisp (dTrs K mg W l) σ H Q := fun σ H Q ⟨w, r, h, e, R, k⟩ p hp => by
  subst e
  have lN := Le.newD hp
  exact pairs_cut hp l (w.newD p) h [] [] upd_same (.inl rfl) (R.hp.outN hp) lN (R.le lN (R.hp.newD hp)) rfl k _ fun ps H3 z => z
end
section
variable {X : Cx} {W : WX} {w0 : Rw} {M0 : Addr → Prop} {a b c : Expr} {fa fb fc : E} {pos p2 : Pos} {keys : List (Option Expr)} {vals : List Expr} {l : List (Str × E)}
theorem dp_nil : PPs X pos [] [] (dTrs X.K X.mg W []) := pps_nil
theorem dp_cons {s : Str} {j : Nat} {kp : Pos} (ha : PEs X W a fa) (h : PPs X pos keys vals (dTrs X.K X.mg W l)) : PPs X pos (some (.Constant (.str s) j kp) :: keys) (a :: vals) (dTrs X.K X.mg W ((s, fa) :: l)) := pps_cons s_str ha h
theorem s_dict (h : PPs X pos keys vals (dTrs X.K X.mg W l)) (hall : keys.all (·.isSome) = true := by rfl) (hl : keys.length = vals.length := by rfl) (h0 : keys ≠ [] := by exact fun z => nomatch z) (h15 : keys.length ≤ 15 := by decide) : PEs X W (.Dict keys vals pos) (eDict l) :=
  PE.weak (pe_disp h hall hl h0 h15) disp_cut
theorem s_dget (hu : X.A.units + 64 < PySem.cLine) (ha : PEs X W a fa) (hb : PEs X W b fb) (hs : NoSl b := by intro _ _; rfl) : PEs X W (.Subscript a b pos) (e2 fDGet fa fb) := PE.weak (pe_dget (by omega) ha hb hs) fun σ H Q ⟨w, r, h, e, R, k⟩ => by
  subst e
  refine ⟨w, r, h, rfl, R, EK.cut (fun x h1 w1 v1 l1 R1 q1 k1 => ?_) k⟩
  refine ⟨w1, r, h1, rfl, R.le l1 R1, EK.cut (fun y h2 w2 v2 l2 R2 q2 k2 => ?_) k1⟩
  obtain ⟨z, ez, kz⟩ := opt_cut k2
  unfold fDGet at ez
  split at ez
  · rename_i n s
    split at ez
    · rename_i kvs hn
      cases hd : dval kvs (.inr s) with
      | none => rw [hd] at ez; cases ez
      | some z1 =>
        rw [hd] at ez
        cases ez
        have e2 : v2 = .str s := q2
        subst e2
        obtain ⟨hk, ev⟩ := (q1.le R1 l2 : RVal X.K w2 (.obj n) v1)
        obtain ⟨gs, eg, qg⟩ := R2.obj n _ hn
        obtain ⟨u, eu, qu⟩ := qg.val hd
        have dg := DGet.k (k := (Sum.inr s : L2.Key)) eg
        rw [eu] at dg
        exact ⟨w2.io n, u, ev, dg, kz w2 _ (Le.refl w2) R2 qu⟩
    · cases ez
  · cases ez
theorem b_dset (hu : X.A.units + 64 < PySem.cLine) (ha : PEs X W a fa) (hc : PEs X W c fc) (hb : PEs X W b fb) (hs : PySem.swapsWith a (some (.Subscript c b p2)) pos.line X.env = pure false := by rfl) :
    PSs' X W w0 M0 (.Assign [.Subscript c b p2] a pos) (sDSet fc fb fa) := PS.weak (ps_dput (by omega) hc hb ha hs) fun D σ H ⟨w, r, h, e, R, k⟩ => by
  subst e
  refine ⟨w, r, h, rfl, R.rel, SK.cut R (fun x h1 w1 v1 l1 R1 q1 k1 => ?_) k⟩
  split at k1
  · rename_i y hy
    obtain ⟨w2, eH, l2, R2, q2⟩ := q1.keep R1 l1 hy
    refine ⟨w2, r, h1, eH, R.rel.le l2 R2, SK.cut (R.le' l2 R2) (fun o h3 w3 v3 l3 R3 q3 k3 => ?_) k1⟩
    split at k3
    · rename_i m
      have l23 := l2.trans l3
      refine ⟨w3, r, h3, rfl, R.rel.le l23 R3, SK.cut (R.le' l23 R3) (fun j h4 w4 v4 l4 R4 q4 k4 => ?_) k3⟩
      split at k4
      · rename_i s
        split at k4
        · rename_i kvs hm
          split at k4
          · rename_i hz
            have e4 : v4 = .str s := q4
            subst e4
            obtain ⟨hk, ev⟩ := (q3.le R3 l4 : RVal X.K w4 (.obj m) v3)
            subst ev
            obtain ⟨gs, eg, qg⟩ := R4.obj m _ hm
            have q5 := (q2.le R2 l3).le R3 l4
            refine ⟨_, _, rfl, DPut.k (k := (Sum.inr s : L2.Key)) eg (by rw [← qg.len]; exact Nat.lt_of_lt_of_le hz (by decide)), ?_⟩
            have hP := R4.inP m hk
            exact k4 (w4.updH (w4.io m) _) σ ((R.le' (l23.trans l4) R4).le' (Le.upd_any hk) (R4.upd_any hm ⟨_, upd_same, (qg.put q5).updH hP⟩))
          · exact k4.elim
        · exact k4.elim
      · exact k4.elim
    · exact k3.elim
  · exact k1.elim
end
end SM

/-! Lk15: the mirrors of law_k15_blake_compress, printed by gen2.py. -/
namespace Lk15
open PySem (Str Stmt)
open SM
open L2 (defScope defBody defArgs FnScope op_lt op_le op_gt op_ge)
def topS (i : Nat) : Stmt := PySem.Challenge.pw_saltmill_k15_blake_compress.main.body.getD i (.Pass ⟨0, 0, 0, 0⟩)
def k_MASK_roots : Val := (.int 18446744073709551615)
def k_MASK_blake : Val := (.int 18446744073709551615)
def k_PRIMES : Val := (.tup [(.int 2), (.int 3), (.int 5), (.int 7), (.int 11), (.int 13), (.int 17), (.int 19), (.int 23), (.int 29), (.int 31), (.int 37), (.int 41), (.int 43), (.int 47), (.int 53)])
def k_ORDERS : Val := (.tup [(.tup [(.int 0), (.int 1), (.int 2), (.int 3), (.int 4), (.int 5), (.int 6), (.int 7), (.int 8), (.int 9), (.int 10), (.int 11), (.int 12), (.int 13), (.int 14), (.int 15)]), (.tup [(.int 14), (.int 10), (.int 4), (.int 8), (.int 9), (.int 15), (.int 13), (.int 6), (.int 1), (.int 12), (.int 0), (.int 2), (.int 11), (.int 7), (.int 5), (.int 3)]), (.tup [(.int 11), (.int 8), (.int 12), (.int 0), (.int 5), (.int 2), (.int 15), (.int 13), (.int 10), (.int 14), (.int 3), (.int 6), (.int 7), (.int 1), (.int 9), (.int 4)]), (.tup [(.int 7), (.int 9), (.int 3), (.int 1), (.int 13), (.int 12), (.int 11), (.int 14), (.int 2), (.int 6), (.int 5), (.int 10), (.int 4), (.int 0), (.int 15), (.int 8)]), (.tup [(.int 9), (.int 0), (.int 5), (.int 7), (.int 2), (.int 4), (.int 10), (.int 15), (.int 14), (.int 1), (.int 11), (.int 12), (.int 6), (.int 8), (.int 3), (.int 13)]), (.tup [(.int 2), (.int 12), (.int 6), (.int 10), (.int 0), (.int 11), (.int 8), (.int 3), (.int 4), (.int 13), (.int 7), (.int 5), (.int 15), (.int 14), (.int 1), (.int 9)]), (.tup [(.int 12), (.int 5), (.int 1), (.int 15), (.int 14), (.int 13), (.int 4), (.int 10), (.int 0), (.int 7), (.int 6), (.int 3), (.int 9), (.int 2), (.int 8), (.int 11)]), (.tup [(.int 13), (.int 11), (.int 7), (.int 14), (.int 12), (.int 1), (.int 3), (.int 9), (.int 5), (.int 0), (.int 15), (.int 4), (.int 8), (.int 6), (.int 2), (.int 10)]), (.tup [(.int 6), (.int 15), (.int 14), (.int 9), (.int 11), (.int 3), (.int 0), (.int 8), (.int 12), (.int 2), (.int 13), (.int 7), (.int 1), (.int 4), (.int 10), (.int 5)]), (.tup [(.int 10), (.int 2), (.int 8), (.int 4), (.int 7), (.int 6), (.int 1), (.int 5), (.int 15), (.int 11), (.int 9), (.int 14), (.int 3), (.int 12), (.int 13), (.int 0)])])
def k_PLACES : Val := (.tup [(.tup [(.int 0), (.int 4), (.int 8), (.int 12)]), (.tup [(.int 1), (.int 5), (.int 9), (.int 13)]), (.tup [(.int 2), (.int 6), (.int 10), (.int 14)]), (.tup [(.int 3), (.int 7), (.int 11), (.int 15)]), (.tup [(.int 0), (.int 5), (.int 10), (.int 15)]), (.tup [(.int 1), (.int 6), (.int 11), (.int 12)]), (.tup [(.int 2), (.int 7), (.int 8), (.int 13)]), (.tup [(.int 3), (.int 4), (.int 9), (.int 14)])])
abbrev zs_square_root_word : Stmt := topS 4
abbrev n_square_root_word : List Str := ["number"]
theorem sc_square_root_word : FnScope n_square_root_word ["number"] (defScope zs_square_root_word) := ⟨rfl, rfl, rfl, by decide +kernel, rfl, by decide +kernel, by decide +kernel⟩
noncomputable def b_square_root_word : S := sRet (e2 fAnd (e1 fIsqrt (e2 fShl (eVar 0) (eC (.int 128)))) (eC k_MASK_roots))
noncomputable def f_square_root_word : Fn := mkFn 1 b_square_root_word
abbrev zs_turn : Stmt := topS 8
abbrev n_turn : List Str := ["word", "count"]
theorem sc_turn : FnScope n_turn ["word", "count"] (defScope zs_turn) := ⟨rfl, rfl, rfl, by decide +kernel, rfl, by decide +kernel, by decide +kernel⟩
noncomputable def b_turn : S := sRet (e2 fAnd (e2 fOr (e2 fShr (eVar 0) (eVar 1)) (e2 fShl (eVar 0) (e2 fSub (eC (.int 64)) (eVar 1)))) (eC k_MASK_blake))
noncomputable def f_turn : Fn := mkFn 2 b_turn
abbrev zs_quarter : Stmt := topS 9
abbrev n_quarter : List Str := ["v", "places", "x", "y", "a", "b", "c", "d"]
theorem sc_quarter : FnScope n_quarter ["v", "places", "x", "y"] (defScope zs_quarter) := ⟨rfl, rfl, rfl, by decide +kernel, rfl, by decide +kernel, by decide +kernel⟩
noncomputable def b_quarter : S := sCons (sUnp [4, 5, 6, 7] (eVar 1)) (sCons (sSetHp (eVar 0) (eVar 4) (e2 fAnd (e2 fAdd (e2 fAdd (e2 fIx (eVar 0) (eVar 4)) (e2 fIx (eVar 0) (eVar 5))) (eVar 2)) (eC k_MASK_blake))) (sCons (sSetHp (eVar 0) (eVar 7) (eCall f_turn (aCons (e2 fXor (e2 fIx (eVar 0) (eVar 7)) (e2 fIx (eVar 0) (eVar 4))) (aCons (eC (.int 32)) (aNil))))) (sCons (sSetHp (eVar 0) (eVar 6) (e2 fAnd (e2 fAdd (e2 fIx (eVar 0) (eVar 6)) (e2 fIx (eVar 0) (eVar 7))) (eC k_MASK_blake))) (sCons (sSetHp (eVar 0) (eVar 5) (eCall f_turn (aCons (e2 fXor (e2 fIx (eVar 0) (eVar 5)) (e2 fIx (eVar 0) (eVar 6))) (aCons (eC (.int 24)) (aNil))))) (sCons (sSetHp (eVar 0) (eVar 4) (e2 fAnd (e2 fAdd (e2 fAdd (e2 fIx (eVar 0) (eVar 4)) (e2 fIx (eVar 0) (eVar 5))) (eVar 3)) (eC k_MASK_blake))) (sCons (sSetHp (eVar 0) (eVar 7) (eCall f_turn (aCons (e2 fXor (e2 fIx (eVar 0) (eVar 7)) (e2 fIx (eVar 0) (eVar 4))) (aCons (eC (.int 16)) (aNil))))) (sCons (sSetHp (eVar 0) (eVar 6) (e2 fAnd (e2 fAdd (e2 fIx (eVar 0) (eVar 6)) (e2 fIx (eVar 0) (eVar 7))) (eC k_MASK_blake))) (sSetHp (eVar 0) (eVar 5) (eCall f_turn (aCons (e2 fXor (e2 fIx (eVar 0) (eVar 5)) (e2 fIx (eVar 0) (eVar 6))) (aCons (eC (.int 63)) (aNil))))))))))))
noncomputable def f_quarter : Fn := mkFn 8 b_quarter
abbrev zs_initial_words : Stmt := topS 11
abbrev n_initial_words : List Str := ["prime"]
theorem sc_initial_words : FnScope n_initial_words [] (defScope zs_initial_words) := ⟨rfl, rfl, rfl, by decide +kernel, rfl, by decide +kernel, by decide +kernel⟩
noncomputable def c_initial_words_1 : E := eCall f_square_root_word (aCons (eVar 0) (aNil))
noncomputable def b_initial_words : S := sRet (e1 fTuple (eLc [0] (.nm 0) (iSeqE (eSl (eC k_PRIMES) none (some (eC (.int 8))))) (tYes) c_initial_words_1))
noncomputable def f_initial_words : Fn := mkFn 1 b_initial_words
abbrev zs_compress : Stmt := topS 12
abbrev n_compress : List Str := ["state", "words", "count", "last", "v", "number", "order", "k", "places"]
theorem sc_compress : FnScope n_compress ["state", "words", "count", "last"] (defScope zs_compress) := ⟨rfl, rfl, rfl, by decide +kernel, rfl, by decide +kernel, by decide +kernel⟩
noncomputable def l_compress_1 : S := sExpr (eCall f_quarter (aCons (eVar 4) (aCons (eVar 8) (aCons (e2 fIx (eVar 1) (e2 fIx (eVar 6) (e2 fMul (eC (.int 2)) (eVar 7)))) (aCons (e2 fIx (eVar 1) (e2 fIx (eVar 6) (e2 fAdd (e2 fMul (eC (.int 2)) (eVar 7)) (eC (.int 1))))) (aNil))))))
noncomputable def l_compress_2 : S := sCons (sSet 6 (e2 fIx (eC k_ORDERS) (e2 fMod (eVar 5) (eC (.int 10))))) (sFor (.tp [7, 8]) (iNumS seqV (eC k_PLACES)) l_compress_1)
noncomputable def c_compress_3 : E := e2 fXor (e2 fXor (e2 fIx (eVar 0) (eVar 7)) (e2 fIx (eVar 4) (eVar 7))) (e2 fIx (eVar 4) (e2 fAdd (eVar 7) (eC (.int 8))))
noncomputable def b_compress : S := sCons (sHeap 4 (e2 fAdd (e1 fList (eVar 0)) (e1 fList (eCall f_initial_words aNil)))) (sCons (sSetHp (eVar 4) (eC (.int 12)) (e2 fXor (e2 fIx (eVar 4) (eC (.int 12))) (e2 fAnd (eVar 2) (eC k_MASK_blake)))) (sCons (sSetHp (eVar 4) (eC (.int 13)) (e2 fXor (e2 fIx (eVar 4) (eC (.int 13))) (e2 fAnd (e2 fShr (eVar 2) (eC (.int 64))) (eC k_MASK_blake)))) (sCons (sIf (tTru (eVar 3)) (sSetHp (eVar 4) (eC (.int 14)) (e2 fXor (e2 fIx (eVar 4) (eC (.int 14))) (eC k_MASK_blake))) (sNil)) (sCons (sFor (.nm 5) (iRng1 (eC (.int 12))) l_compress_2) (sRet (e1 fTuple (eLc [7] (.nm 7) (iRng1 (eC (.int 8))) (tYes) c_compress_3)))))))
noncomputable def f_compress : Fn := mkFn 9 b_compress
abbrev zs__law_draws : Stmt := topS 14
abbrev n__law_draws : List Str := ["script", "draws", "cell", "rest", "k", "mixed"]
theorem sc__law_draws : FnScope n__law_draws ["script"] (defScope zs__law_draws) := ⟨rfl, rfl, rfl, by decide +kernel, rfl, by decide +kernel, by decide +kernel⟩
noncomputable def l__law_draws_1 : S := sIf (tB (e2 fGt (eVar 3) (eC (.int 0)))) (sCons (sApp 1 (e2 fMod (e1 fInt (eVar 3)) (eC (.int 1009)))) (sSet 3 (e2 fDiv (eVar 3) (eC (.int 1009))))) (sNil)
noncomputable def l__law_draws_2 : S := sCons (sSet 5 (e2 fMod (e1 fInt (e2 fAdd (e2 fAdd (e2 fMul (eVar 5) (eC (.int 16807))) (e2 fMul (eC (.int 69621)) (eVar 4))) (eC (.int 5)))) (eC (.int 2147483629)))) (sApp 1 (e2 fDiv (eVar 5) (eC (.int 1009))))
noncomputable def l__law_draws_3 : S := sCons (sSet 3 (e1 fAbs (eVar 2))) (sIf (tB (e2 fGe (eVar 3) (eC (.int 1000000000000000000)))) (sFor (.nm 4) (iRng1 (eC (.int 60))) l__law_draws_1) (sCons (sSet 5 (e2 fMod (e1 fInt (e2 fAdd (e2 fMul (eVar 3) (eC (.int 48271))) (eC (.int 11)))) (eC (.int 2147483647)))) (sFor (.nm 4) (iRng1 (eC (.int 7))) l__law_draws_2)))
noncomputable def b__law_draws : S := sCons (sOwn 1 (eLst (aNil))) (sCons (sFor (.nm 2) (iSeq (eSl (eVar 0) none (some (eC (.int 63))))) l__law_draws_3) (sRetOwn 1))
noncomputable def f__law_draws : Fn := mkFn 6 b__law_draws
abbrev zs__law_take : Stmt := topS 15
abbrev n__law_take : List Str := ["m", "many", "at"]
theorem sc__law_take : FnScope n__law_take ["m", "many"] (defScope zs__law_take) := ⟨rfl, rfl, rfl, by decide +kernel, rfl, by decide +kernel, by decide +kernel⟩
noncomputable def b__law_take : S := sCons (sSet 2 (e2 fDGet (eVar 0) (eC (.str "at")))) (sCons (sIf (tB (e2 fGe (eVar 2) (e1 fLen (e2 fDGet (eVar 0) (eC (.str "draws")))))) (sRet (eC (.int 0))) (sNil)) (sCons (sDSet (eVar 0) (eC (.str "at")) (e2 fAdd (eVar 2) (eC (.int 1)))) (sRet (e2 fMod (e1 fInt (e2 fIx (e2 fDGet (eVar 0) (eC (.str "draws"))) (eVar 2))) (eVar 1)))))
noncomputable def f__law_take : Fn := mkFn 3 b__law_take
abbrev zs__law_octets : Stmt := topS 16
abbrev n__law_octets : List Str := ["m", "size", "seed", "octets", "k"]
theorem sc__law_octets : FnScope n__law_octets ["m", "size"] (defScope zs__law_octets) := ⟨rfl, rfl, rfl, by decide +kernel, rfl, by decide +kernel, by decide +kernel⟩
noncomputable def l__law_octets_1 : S := sCons (sSet 2 (e2 fMod (e1 fInt (e2 fAdd (e2 fMul (eVar 2) (eC (.int 1103515245))) (eC (.int 12345)))) (eC (.int 2147483648)))) (sApp 3 (e2 fAnd (e2 fDiv (eVar 2) (eC (.int 65536))) (eC (.int 255))))
noncomputable def b__law_octets : S := sCons (sSet 2 (e2 fAdd (e2 fAdd (eC (.int 1)) (e2 fMul (eCall f__law_take (aCons (eVar 0) (aCons (eC (.int 1009)) (aNil)))) (eC (.int 1009)))) (eCall f__law_take (aCons (eVar 0) (aCons (eC (.int 1009)) (aNil)))))) (sCons (sOwn 3 (eLst (aNil))) (sCons (sFor (.nm 4) (iRng1 (eVar 1)) l__law_octets_1) (sRet (e1 fTuple (eVar 3)))))
noncomputable def f__law_octets : Fn := mkFn 5 b__law_octets
abbrev zs__law_same : Stmt := topS 17
abbrev n__law_same : List Str := ["actual", "due", "n"]
theorem sc__law_same : FnScope n__law_same ["actual", "due"] (defScope zs__law_same) := ⟨rfl, rfl, rfl, by decide +kernel, rfl, by decide +kernel, by decide +kernel⟩
noncomputable def c__law_same_1 : E := eAnd (e1 (fIs "int") (eVar 2)) (eNot (e1 (fIs "bool") (eVar 2)))
noncomputable def b__law_same : S := sCons (sIf (tOr (tNot (tB (e1 (fIs "tuple") (eVar 0)))) (tB (e2 (fEq true) (e1 fLen (eVar 0)) (e1 fLen (eVar 1))))) (sRet (eC (.bool false))) (sNil)) (sRet (eAnd (e1 fAllB (eLc [2] (.nm 2) (iSeqE (eVar 0)) (tYes) c__law_same_1)) (e2 (fEq false) (eVar 0) (eVar 1))))
noncomputable def f__law_same : Fn := mkFn 3 b__law_same
abbrev zs__law_root : Stmt := topS 18
abbrev n__law_root : List Str := ["number", "power", "low", "high", "middle", "cube"]
theorem sc__law_root : FnScope n__law_root ["number", "power"] (defScope zs__law_root) := ⟨rfl, rfl, rfl, by decide +kernel, rfl, by decide +kernel, by decide +kernel⟩
noncomputable def l__law_root_1 : S := sCons (sSet 4 (e2 fDiv (e2 fAdd (eVar 2) (eVar 3)) (eC (.int 2)))) (sCons (sSet 5 (eIf (tB (e2 (fEq false) (eVar 1) (eC (.int 3)))) (eVar 4) (eC (.int 1)))) (sIf (tB (e2 fLe (e2 fMul (e2 fMul (eVar 4) (eVar 4)) (eVar 5)) (e2 fShl (eVar 0) (e2 fMul (eC (.int 64)) (eVar 1))))) (sSet 2 (eVar 4)) (sSet 3 (eVar 4))))
noncomputable def b__law_root : S := sCons (sSet 2 (eC (.int 0))) (sCons (sSet 3 (e2 fShl (eC (.int 1)) (eC (.int 72)))) (sCons (sWhile (tB (e2 fGt (e2 fSub (eVar 3) (eVar 2)) (eC (.int 1)))) l__law_root_1 fuel) (sRet (e2 fAnd (eVar 2) (eC (.int 18446744073709551615))))))
noncomputable def f__law_root : Fn := mkFn 6 b__law_root
abbrev zs__law_initial : Stmt := topS 19
abbrev n__law_initial : List Str := ["prime"]
theorem sc__law_initial : FnScope n__law_initial [] (defScope zs__law_initial) := ⟨rfl, rfl, rfl, by decide +kernel, rfl, by decide +kernel, by decide +kernel⟩
noncomputable def c__law_initial_1 : E := eCall f__law_root (aCons (eVar 0) (aCons (eC (.int 2)) (aNil)))
noncomputable def b__law_initial : S := sRet (eLc [0] (.nm 0) (iSeqE (eTup (aCons (eC (.int 2)) (aCons (eC (.int 3)) (aCons (eC (.int 5)) (aCons (eC (.int 7)) (aCons (eC (.int 11)) (aCons (eC (.int 13)) (aCons (eC (.int 17)) (aCons (eC (.int 19)) (aNil))))))))))) (tYes) c__law_initial_1)
noncomputable def f__law_initial : Fn := mkFn 1 b__law_initial
abbrev zs__law_orders : Stmt := topS 20
abbrev n__law_orders : List Str := ["rows", "row", "word"]
theorem sc__law_orders : FnScope n__law_orders [] (defScope zs__law_orders) := ⟨rfl, rfl, rfl, by decide +kernel, rfl, by decide +kernel, by decide +kernel⟩
noncomputable def c__law_orders_1 : E := e1 fIntS (eVar 2)
noncomputable def c__law_orders_2 : E := eLc [2] (.nm 2) (iSeqE (eSm fSplit (eVar 1) (eC (.str " ")))) (tYes) c__law_orders_1
noncomputable def b__law_orders : S := sCons (sSet 0 (eLst (aCons (eC (.str "0 1 2 3 4 5 6 7 8 9 10 11 12 13 14 15")) (aCons (eC (.str "14 10 4 8 9 15 13 6 1 12 0 2 11 7 5 3")) (aNil))))) (sCons (sSet 0 (e2 fAdd (eVar 0) (eLst (aCons (eC (.str "11 8 12 0 5 2 15 13 10 14 3 6 7 1 9 4")) (aCons (eC (.str "7 9 3 1 13 12 11 14 2 6 5 10 4 0 15 8")) (aNil)))))) (sCons (sSet 0 (e2 fAdd (eVar 0) (eLst (aCons (eC (.str "9 0 5 7 2 4 10 15 14 1 11 12 6 8 3 13")) (aCons (eC (.str "2 12 6 10 0 11 8 3 4 13 7 5 15 14 1 9")) (aNil)))))) (sCons (sSet 0 (e2 fAdd (eVar 0) (eLst (aCons (eC (.str "12 5 1 15 14 13 4 10 0 7 6 3 9 2 8 11")) (aCons (eC (.str "13 11 7 14 12 1 3 9 5 0 15 4 8 6 2 10")) (aNil)))))) (sCons (sSet 0 (e2 fAdd (eVar 0) (eLst (aCons (eC (.str "6 15 14 9 11 3 0 8 12 2 13 7 1 4 10 5")) (aCons (eC (.str "10 2 8 4 7 6 1 5 15 11 9 14 3 12 13 0")) (aNil)))))) (sCons (sSet 0 (e2 fAdd (eVar 0) (eSl (eVar 0) none (some (eC (.int 2)))))) (sRet (eLc [1] (.nm 1) (iSeqE (eVar 0)) (tYes) c__law_orders_2)))))))
noncomputable def f__law_orders : Fn := mkFn 3 b__law_orders
abbrev zs__law_turned : Stmt := topS 21
abbrev n__law_turned : List Str := ["word", "count"]
theorem sc__law_turned : FnScope n__law_turned ["word", "count"] (defScope zs__law_turned) := ⟨rfl, rfl, rfl, by decide +kernel, rfl, by decide +kernel, by decide +kernel⟩
noncomputable def b__law_turned : S := sRet (e2 fAnd (e2 fOr (e2 fShr (eVar 0) (eVar 1)) (e2 fShl (eVar 0) (e2 fSub (eC (.int 64)) (eVar 1)))) (eC (.int 18446744073709551615)))
noncomputable def f__law_turned : Fn := mkFn 2 b__law_turned
abbrev zs__law_quarter : Stmt := topS 22
abbrev n__law_quarter : List Str := ["v", "places", "x", "y", "a", "b", "c", "d", "more", "first", "second"]
theorem sc__law_quarter : FnScope n__law_quarter ["v", "places", "x", "y"] (defScope zs__law_quarter) := ⟨rfl, rfl, rfl, by decide +kernel, rfl, by decide +kernel, by decide +kernel⟩
noncomputable def l__law_quarter_1 : S := sCons (sSetHp (eVar 0) (eVar 4) (e2 fAnd (e2 fAdd (e2 fAdd (e2 fIx (eVar 0) (eVar 4)) (e2 fIx (eVar 0) (eVar 5))) (eVar 8)) (eC (.int 18446744073709551615)))) (sCons (sSetHp (eVar 0) (eVar 7) (eCall f__law_turned (aCons (e2 fXor (e2 fIx (eVar 0) (eVar 7)) (e2 fIx (eVar 0) (eVar 4))) (aCons (eVar 9) (aNil))))) (sCons (sSetHp (eVar 0) (eVar 6) (e2 fAnd (e2 fAdd (e2 fIx (eVar 0) (eVar 6)) (e2 fIx (eVar 0) (eVar 7))) (eC (.int 18446744073709551615)))) (sSetHp (eVar 0) (eVar 5) (eCall f__law_turned (aCons (e2 fXor (e2 fIx (eVar 0) (eVar 5)) (e2 fIx (eVar 0) (eVar 6))) (aCons (eVar 10) (aNil)))))))
noncomputable def b__law_quarter : S := sCons (sUnp [4, 5, 6, 7] (eVar 1)) (sFor (.tp [8, 9, 10]) (iSeq (eTup (aCons (eTup (aCons (eVar 2) (aCons (eC (.int 32)) (aCons (eC (.int 24)) (aNil))))) (aCons (eTup (aCons (eVar 3) (aCons (eC (.int 16)) (aCons (eC (.int 63)) (aNil))))) (aNil))))) l__law_quarter_1)
noncomputable def f__law_quarter : Fn := mkFn 11 b__law_quarter
abbrev zs__law_compressed : Stmt := topS 23
abbrev n__law_compressed : List Str := ["state", "words", "count", "last", "v", "places", "order", "k"]
theorem sc__law_compressed : FnScope n__law_compressed ["state", "words", "count", "last"] (defScope zs__law_compressed) := ⟨rfl, rfl, rfl, by decide +kernel, rfl, by decide +kernel, by decide +kernel⟩
noncomputable def l__law_compressed_1 : S := sExpr (eCall f__law_quarter (aCons (eVar 4) (aCons (e2 fIx (eVar 5) (eVar 7)) (aCons (e2 fIx (eVar 1) (e2 fIx (eVar 6) (e2 fMul (eC (.int 2)) (eVar 7)))) (aCons (e2 fIx (eVar 1) (e2 fIx (eVar 6) (e2 fAdd (e2 fMul (eC (.int 2)) (eVar 7)) (eC (.int 1))))) (aNil))))))
noncomputable def l__law_compressed_2 : S := sFor (.nm 7) (iRng1 (eC (.int 8))) l__law_compressed_1
noncomputable def c__law_compressed_3 : E := e2 fXor (e2 fXor (e2 fIx (eVar 0) (eVar 7)) (e2 fIx (eVar 4) (eVar 7))) (e2 fIx (eVar 4) (e2 fAdd (eVar 7) (eC (.int 8))))
noncomputable def b__law_compressed : S := sCons (sHeap 4 (e2 fAdd (e1 fList (eVar 0)) (eCall f__law_initial aNil))) (sCons (sSetHp (eVar 4) (eC (.int 12)) (e2 fXor (e2 fIx (eVar 4) (eC (.int 12))) (e2 fAnd (eVar 2) (eC (.int 18446744073709551615))))) (sCons (sSetHp (eVar 4) (eC (.int 13)) (e2 fXor (e2 fIx (eVar 4) (eC (.int 13))) (e2 fAnd (e2 fShr (eVar 2) (eC (.int 64))) (eC (.int 18446744073709551615))))) (sCons (sIf (tTru (eVar 3)) (sSetHp (eVar 4) (eC (.int 14)) (e2 fXor (e2 fIx (eVar 4) (eC (.int 14))) (eC (.int 18446744073709551615)))) (sNil)) (sCons (sSet 5 (eLst (aCons (eTup (aCons (eC (.int 0)) (aCons (eC (.int 4)) (aCons (eC (.int 8)) (aCons (eC (.int 12)) (aNil)))))) (aCons (eTup (aCons (eC (.int 1)) (aCons (eC (.int 5)) (aCons (eC (.int 9)) (aCons (eC (.int 13)) (aNil)))))) (aCons (eTup (aCons (eC (.int 2)) (aCons (eC (.int 6)) (aCons (eC (.int 10)) (aCons (eC (.int 14)) (aNil)))))) (aCons (eTup (aCons (eC (.int 3)) (aCons (eC (.int 7)) (aCons (eC (.int 11)) (aCons (eC (.int 15)) (aNil)))))) (aCons (eTup (aCons (eC (.int 0)) (aCons (eC (.int 5)) (aCons (eC (.int 10)) (aCons (eC (.int 15)) (aNil)))))) (aCons (eTup (aCons (eC (.int 1)) (aCons (eC (.int 6)) (aCons (eC (.int 11)) (aCons (eC (.int 12)) (aNil)))))) (aCons (eTup (aCons (eC (.int 2)) (aCons (eC (.int 7)) (aCons (eC (.int 8)) (aCons (eC (.int 13)) (aNil)))))) (aCons (eTup (aCons (eC (.int 3)) (aCons (eC (.int 4)) (aCons (eC (.int 9)) (aCons (eC (.int 14)) (aNil)))))) (aNil))))))))))) (sCons (sFor (.nm 6) (iSeq (eCall f__law_orders aNil)) l__law_compressed_2) (sRet (e1 fTuple (eLc [7] (.nm 7) (iRng1 (eC (.int 8))) (tYes) c__law_compressed_3))))))))
noncomputable def f__law_compressed : Fn := mkFn 8 b__law_compressed
abbrev zs__law_word : Stmt := topS 24
abbrev n__law_word : List Str := ["m", "choice", "number", "octet"]
theorem sc__law_word : FnScope n__law_word ["m"] (defScope zs__law_word) := ⟨rfl, rfl, rfl, by decide +kernel, rfl, by decide +kernel, by decide +kernel⟩
noncomputable def l__law_word_1 : S := sSet 2 (e2 fAdd (e2 fMul (eVar 2) (eC (.int 256))) (eVar 3))
noncomputable def b__law_word : S := sCons (sSet 1 (eCall f__law_take (aCons (eVar 0) (aCons (eC (.int 4)) (aNil))))) (sCons (sIf (tB (e2 (fEq false) (eVar 1) (eC (.int 0)))) (sRet (e2 fIx (eLst (aCons (eC (.int 0)) (aCons (eC (.int 18446744073709551615)) (aCons (e2 fShl (eC (.int 1)) (eCall f__law_take (aCons (eVar 0) (aCons (eC (.int 64)) (aNil))))) (aNil))))) (eCall f__law_take (aCons (eVar 0) (aCons (eC (.int 3)) (aNil)))))) (sNil)) (sCons (sSet 2 (eC (.int 0))) (sCons (sFor (.nm 3) (iSeq (eCall f__law_octets (aCons (eVar 0) (aCons (eC (.int 8)) (aNil))))) l__law_word_1) (sRet (eVar 2)))))
noncomputable def f__law_word : Fn := mkFn 4 b__law_word
abbrev zs_law : Stmt := topS 25
abbrev n_law : List Str := ["script", "m", "state", "k", "words", "count", "last", "due", "kept"]
theorem sc_law : FnScope n_law ["script"] (defScope zs_law) := ⟨rfl, rfl, rfl, by decide +kernel, rfl, by decide +kernel, by decide +kernel⟩
noncomputable def c_law_1 : E := eCall f__law_word (aCons (eVar 1) (aNil))
noncomputable def c_law_2 : E := eCall f__law_word (aCons (eVar 1) (aNil))
noncomputable def b_law : S := sCons (sSet 1 (eDict [("draws", eCall f__law_draws (aCons (eVar 0) (aNil))), ("at", eC (.int 0))])) (sCons (sSet 2 (eLc [3] (.nm 3) (iRng1 (eC (.int 8))) (tYes) c_law_1)) (sCons (sSet 4 (eLc [3] (.nm 3) (iRng1 (eC (.int 16))) (tYes) c_law_2)) (sCons (sIf (tB (e2 (fEq false) (eCall f__law_take (aCons (eVar 1) (aCons (eC (.int 6)) (aNil)))) (eC (.int 0)))) (sSet 4 (e2 fMul (eLst (aCons (e2 fIx (eVar 4) (eC (.int 0))) (aNil))) (eC (.int 16)))) (sNil)) (sCons (sSet 5 (e2 fIx (eLst (aCons (eC (.int 128)) (aCons (eC (.int 0)) (aCons (eCall f__law_take (aCons (eVar 1) (aCons (eC (.int 1009)) (aNil)))) (aCons (e2 fShl (eC (.int 1)) (eC (.int 64))) (aCons (e2 fSub (e2 fShl (eC (.int 1)) (eC (.int 70))) (eC (.int 1))) (aCons (eC (.int 18446744073709551615)) (aNil)))))))) (eCall f__law_take (aCons (eVar 1) (aCons (eC (.int 6)) (aNil)))))) (sCons (sSet 6 (e2 (fEq false) (eCall f__law_take (aCons (eVar 1) (aCons (eC (.int 2)) (aNil)))) (eC (.int 0)))) (sCons (sSet 7 (eCall f__law_compressed (aCons (eVar 2) (aCons (eVar 4) (aCons (eVar 5) (aCons (eVar 6) (aNil))))))) (sCons (sSet 8 (eLst (aCons (e1 fList (eVar 2)) (aCons (e1 fList (eVar 4)) (aNil))))) (sCons (sIf (tOr (tNot (tTru (eCall f__law_same (aCons (eCall f_compress (aCons (eVar 2) (aCons (eVar 4) (aCons (eVar 5) (aCons (eVar 6) (aNil)))))) (aCons (eVar 7) (aNil)))))) (tB (e2 (fEq true) (eLst (aCons (eVar 2) (aCons (eVar 4) (aNil)))) (eVar 8)))) (sRet (eC (.bool false))) (sNil)) (sRet (eCall f__law_same (aCons (eCall f_compress (aCons (e1 fTuple (eVar 2)) (aCons (e1 fTuple (eVar 4)) (aCons (eVar 5) (aCons (eVar 6) (aNil)))))) (aCons (eVar 7) (aNil)))))))))))))
noncomputable def f_law : Fn := mkFn 9 b_law
section
open PySem (Str)
theorem so0 : PySem.PyData.strOk (" " : Str) = true := by decide +kernel
theorem so1 : PySem.PyData.strOk ("0 1 2 3 4 5 6 7 8 9 10 11 12 13 14 15" : Str) = true := by decide +kernel
theorem so2 : PySem.PyData.strOk ("10 2 8 4 7 6 1 5 15 11 9 14 3 12 13 0" : Str) = true := by decide +kernel
theorem so3 : PySem.PyData.strOk ("11 8 12 0 5 2 15 13 10 14 3 6 7 1 9 4" : Str) = true := by decide +kernel
theorem so4 : PySem.PyData.strOk ("12 5 1 15 14 13 4 10 0 7 6 3 9 2 8 11" : Str) = true := by decide +kernel
theorem so5 : PySem.PyData.strOk ("13 11 7 14 12 1 3 9 5 0 15 4 8 6 2 10" : Str) = true := by decide +kernel
theorem so6 : PySem.PyData.strOk ("14 10 4 8 9 15 13 6 1 12 0 2 11 7 5 3" : Str) = true := by decide +kernel
theorem so7 : PySem.PyData.strOk ("2 12 6 10 0 11 8 3 4 13 7 5 15 14 1 9" : Str) = true := by decide +kernel
theorem so8 : PySem.PyData.strOk ("6 15 14 9 11 3 0 8 12 2 13 7 1 4 10 5" : Str) = true := by decide +kernel
theorem so9 : PySem.PyData.strOk ("7 9 3 1 13 12 11 14 2 6 5 10 4 0 15 8" : Str) = true := by decide +kernel
theorem so10 : PySem.PyData.strOk ("9 0 5 7 2 4 10 15 14 1 11 12 6 8 3 13" : Str) = true := by decide +kernel
theorem so11 : PySem.PyData.strOk ("at" : Str) = true := by decide +kernel
theorem so12 : PySem.PyData.strOk ("draws" : Str) = true := by decide +kernel
theorem sq13 : ((" " : Str) = "0 1 2 3 4 5 6 7 8 9 10 11 12 13 14 15") = False := eq_false (by decide +kernel)
theorem sq14 : ((" " : Str) = "10 2 8 4 7 6 1 5 15 11 9 14 3 12 13 0") = False := eq_false (by decide +kernel)
theorem sq15 : ((" " : Str) = "11 8 12 0 5 2 15 13 10 14 3 6 7 1 9 4") = False := eq_false (by decide +kernel)
theorem sq16 : ((" " : Str) = "12 5 1 15 14 13 4 10 0 7 6 3 9 2 8 11") = False := eq_false (by decide +kernel)
theorem sq17 : ((" " : Str) = "13 11 7 14 12 1 3 9 5 0 15 4 8 6 2 10") = False := eq_false (by decide +kernel)
theorem sq18 : ((" " : Str) = "14 10 4 8 9 15 13 6 1 12 0 2 11 7 5 3") = False := eq_false (by decide +kernel)
theorem sq19 : ((" " : Str) = "2 12 6 10 0 11 8 3 4 13 7 5 15 14 1 9") = False := eq_false (by decide +kernel)
theorem sq20 : ((" " : Str) = "6 15 14 9 11 3 0 8 12 2 13 7 1 4 10 5") = False := eq_false (by decide +kernel)
theorem sq21 : ((" " : Str) = "7 9 3 1 13 12 11 14 2 6 5 10 4 0 15 8") = False := eq_false (by decide +kernel)
theorem sq22 : ((" " : Str) = "9 0 5 7 2 4 10 15 14 1 11 12 6 8 3 13") = False := eq_false (by decide +kernel)
theorem sq23 : ((" " : Str) = "at") = False := eq_false (by decide +kernel)
theorem sq24 : ((" " : Str) = "draws") = False := eq_false (by decide +kernel)
theorem sq25 : (("0 1 2 3 4 5 6 7 8 9 10 11 12 13 14 15" : Str) = " ") = False := eq_false (by decide +kernel)
theorem sq26 : (("0 1 2 3 4 5 6 7 8 9 10 11 12 13 14 15" : Str) = "10 2 8 4 7 6 1 5 15 11 9 14 3 12 13 0") = False := eq_false (by decide +kernel)
theorem sq27 : (("0 1 2 3 4 5 6 7 8 9 10 11 12 13 14 15" : Str) = "11 8 12 0 5 2 15 13 10 14 3 6 7 1 9 4") = False := eq_false (by decide +kernel)
theorem sq28 : (("0 1 2 3 4 5 6 7 8 9 10 11 12 13 14 15" : Str) = "12 5 1 15 14 13 4 10 0 7 6 3 9 2 8 11") = False := eq_false (by decide +kernel)
theorem sq29 : (("0 1 2 3 4 5 6 7 8 9 10 11 12 13 14 15" : Str) = "13 11 7 14 12 1 3 9 5 0 15 4 8 6 2 10") = False := eq_false (by decide +kernel)
theorem sq30 : (("0 1 2 3 4 5 6 7 8 9 10 11 12 13 14 15" : Str) = "14 10 4 8 9 15 13 6 1 12 0 2 11 7 5 3") = False := eq_false (by decide +kernel)
theorem sq31 : (("0 1 2 3 4 5 6 7 8 9 10 11 12 13 14 15" : Str) = "2 12 6 10 0 11 8 3 4 13 7 5 15 14 1 9") = False := eq_false (by decide +kernel)
theorem sq32 : (("0 1 2 3 4 5 6 7 8 9 10 11 12 13 14 15" : Str) = "6 15 14 9 11 3 0 8 12 2 13 7 1 4 10 5") = False := eq_false (by decide +kernel)
theorem sq33 : (("0 1 2 3 4 5 6 7 8 9 10 11 12 13 14 15" : Str) = "7 9 3 1 13 12 11 14 2 6 5 10 4 0 15 8") = False := eq_false (by decide +kernel)
theorem sq34 : (("0 1 2 3 4 5 6 7 8 9 10 11 12 13 14 15" : Str) = "9 0 5 7 2 4 10 15 14 1 11 12 6 8 3 13") = False := eq_false (by decide +kernel)
theorem sq35 : (("0 1 2 3 4 5 6 7 8 9 10 11 12 13 14 15" : Str) = "at") = False := eq_false (by decide +kernel)
theorem sq36 : (("0 1 2 3 4 5 6 7 8 9 10 11 12 13 14 15" : Str) = "draws") = False := eq_false (by decide +kernel)
theorem sq37 : (("10 2 8 4 7 6 1 5 15 11 9 14 3 12 13 0" : Str) = " ") = False := eq_false (by decide +kernel)
theorem sq38 : (("10 2 8 4 7 6 1 5 15 11 9 14 3 12 13 0" : Str) = "0 1 2 3 4 5 6 7 8 9 10 11 12 13 14 15") = False := eq_false (by decide +kernel)
theorem sq39 : (("10 2 8 4 7 6 1 5 15 11 9 14 3 12 13 0" : Str) = "11 8 12 0 5 2 15 13 10 14 3 6 7 1 9 4") = False := eq_false (by decide +kernel)
theorem sq40 : (("10 2 8 4 7 6 1 5 15 11 9 14 3 12 13 0" : Str) = "12 5 1 15 14 13 4 10 0 7 6 3 9 2 8 11") = False := eq_false (by decide +kernel)
theorem sq41 : (("10 2 8 4 7 6 1 5 15 11 9 14 3 12 13 0" : Str) = "13 11 7 14 12 1 3 9 5 0 15 4 8 6 2 10") = False := eq_false (by decide +kernel)
theorem sq42 : (("10 2 8 4 7 6 1 5 15 11 9 14 3 12 13 0" : Str) = "14 10 4 8 9 15 13 6 1 12 0 2 11 7 5 3") = False := eq_false (by decide +kernel)
theorem sq43 : (("10 2 8 4 7 6 1 5 15 11 9 14 3 12 13 0" : Str) = "2 12 6 10 0 11 8 3 4 13 7 5 15 14 1 9") = False := eq_false (by decide +kernel)
theorem sq44 : (("10 2 8 4 7 6 1 5 15 11 9 14 3 12 13 0" : Str) = "6 15 14 9 11 3 0 8 12 2 13 7 1 4 10 5") = False := eq_false (by decide +kernel)
theorem sq45 : (("10 2 8 4 7 6 1 5 15 11 9 14 3 12 13 0" : Str) = "7 9 3 1 13 12 11 14 2 6 5 10 4 0 15 8") = False := eq_false (by decide +kernel)
theorem sq46 : (("10 2 8 4 7 6 1 5 15 11 9 14 3 12 13 0" : Str) = "9 0 5 7 2 4 10 15 14 1 11 12 6 8 3 13") = False := eq_false (by decide +kernel)
theorem sq47 : (("10 2 8 4 7 6 1 5 15 11 9 14 3 12 13 0" : Str) = "at") = False := eq_false (by decide +kernel)
theorem sq48 : (("10 2 8 4 7 6 1 5 15 11 9 14 3 12 13 0" : Str) = "draws") = False := eq_false (by decide +kernel)
theorem sq49 : (("11 8 12 0 5 2 15 13 10 14 3 6 7 1 9 4" : Str) = " ") = False := eq_false (by decide +kernel)
theorem sq50 : (("11 8 12 0 5 2 15 13 10 14 3 6 7 1 9 4" : Str) = "0 1 2 3 4 5 6 7 8 9 10 11 12 13 14 15") = False := eq_false (by decide +kernel)
theorem sq51 : (("11 8 12 0 5 2 15 13 10 14 3 6 7 1 9 4" : Str) = "10 2 8 4 7 6 1 5 15 11 9 14 3 12 13 0") = False := eq_false (by decide +kernel)
theorem sq52 : (("11 8 12 0 5 2 15 13 10 14 3 6 7 1 9 4" : Str) = "12 5 1 15 14 13 4 10 0 7 6 3 9 2 8 11") = False := eq_false (by decide +kernel)
theorem sq53 : (("11 8 12 0 5 2 15 13 10 14 3 6 7 1 9 4" : Str) = "13 11 7 14 12 1 3 9 5 0 15 4 8 6 2 10") = False := eq_false (by decide +kernel)
theorem sq54 : (("11 8 12 0 5 2 15 13 10 14 3 6 7 1 9 4" : Str) = "14 10 4 8 9 15 13 6 1 12 0 2 11 7 5 3") = False := eq_false (by decide +kernel)
theorem sq55 : (("11 8 12 0 5 2 15 13 10 14 3 6 7 1 9 4" : Str) = "2 12 6 10 0 11 8 3 4 13 7 5 15 14 1 9") = False := eq_false (by decide +kernel)
theorem sq56 : (("11 8 12 0 5 2 15 13 10 14 3 6 7 1 9 4" : Str) = "6 15 14 9 11 3 0 8 12 2 13 7 1 4 10 5") = False := eq_false (by decide +kernel)
theorem sq57 : (("11 8 12 0 5 2 15 13 10 14 3 6 7 1 9 4" : Str) = "7 9 3 1 13 12 11 14 2 6 5 10 4 0 15 8") = False := eq_false (by decide +kernel)
theorem sq58 : (("11 8 12 0 5 2 15 13 10 14 3 6 7 1 9 4" : Str) = "9 0 5 7 2 4 10 15 14 1 11 12 6 8 3 13") = False := eq_false (by decide +kernel)
theorem sq59 : (("11 8 12 0 5 2 15 13 10 14 3 6 7 1 9 4" : Str) = "at") = False := eq_false (by decide +kernel)
theorem sq60 : (("11 8 12 0 5 2 15 13 10 14 3 6 7 1 9 4" : Str) = "draws") = False := eq_false (by decide +kernel)
theorem sq61 : (("12 5 1 15 14 13 4 10 0 7 6 3 9 2 8 11" : Str) = " ") = False := eq_false (by decide +kernel)
theorem sq62 : (("12 5 1 15 14 13 4 10 0 7 6 3 9 2 8 11" : Str) = "0 1 2 3 4 5 6 7 8 9 10 11 12 13 14 15") = False := eq_false (by decide +kernel)
theorem sq63 : (("12 5 1 15 14 13 4 10 0 7 6 3 9 2 8 11" : Str) = "10 2 8 4 7 6 1 5 15 11 9 14 3 12 13 0") = False := eq_false (by decide +kernel)
theorem sq64 : (("12 5 1 15 14 13 4 10 0 7 6 3 9 2 8 11" : Str) = "11 8 12 0 5 2 15 13 10 14 3 6 7 1 9 4") = False := eq_false (by decide +kernel)
theorem sq65 : (("12 5 1 15 14 13 4 10 0 7 6 3 9 2 8 11" : Str) = "13 11 7 14 12 1 3 9 5 0 15 4 8 6 2 10") = False := eq_false (by decide +kernel)
theorem sq66 : (("12 5 1 15 14 13 4 10 0 7 6 3 9 2 8 11" : Str) = "14 10 4 8 9 15 13 6 1 12 0 2 11 7 5 3") = False := eq_false (by decide +kernel)
theorem sq67 : (("12 5 1 15 14 13 4 10 0 7 6 3 9 2 8 11" : Str) = "2 12 6 10 0 11 8 3 4 13 7 5 15 14 1 9") = False := eq_false (by decide +kernel)
theorem sq68 : (("12 5 1 15 14 13 4 10 0 7 6 3 9 2 8 11" : Str) = "6 15 14 9 11 3 0 8 12 2 13 7 1 4 10 5") = False := eq_false (by decide +kernel)
theorem sq69 : (("12 5 1 15 14 13 4 10 0 7 6 3 9 2 8 11" : Str) = "7 9 3 1 13 12 11 14 2 6 5 10 4 0 15 8") = False := eq_false (by decide +kernel)
theorem sq70 : (("12 5 1 15 14 13 4 10 0 7 6 3 9 2 8 11" : Str) = "9 0 5 7 2 4 10 15 14 1 11 12 6 8 3 13") = False := eq_false (by decide +kernel)
theorem sq71 : (("12 5 1 15 14 13 4 10 0 7 6 3 9 2 8 11" : Str) = "at") = False := eq_false (by decide +kernel)
theorem sq72 : (("12 5 1 15 14 13 4 10 0 7 6 3 9 2 8 11" : Str) = "draws") = False := eq_false (by decide +kernel)
theorem sq73 : (("13 11 7 14 12 1 3 9 5 0 15 4 8 6 2 10" : Str) = " ") = False := eq_false (by decide +kernel)
theorem sq74 : (("13 11 7 14 12 1 3 9 5 0 15 4 8 6 2 10" : Str) = "0 1 2 3 4 5 6 7 8 9 10 11 12 13 14 15") = False := eq_false (by decide +kernel)
theorem sq75 : (("13 11 7 14 12 1 3 9 5 0 15 4 8 6 2 10" : Str) = "10 2 8 4 7 6 1 5 15 11 9 14 3 12 13 0") = False := eq_false (by decide +kernel)
theorem sq76 : (("13 11 7 14 12 1 3 9 5 0 15 4 8 6 2 10" : Str) = "11 8 12 0 5 2 15 13 10 14 3 6 7 1 9 4") = False := eq_false (by decide +kernel)
theorem sq77 : (("13 11 7 14 12 1 3 9 5 0 15 4 8 6 2 10" : Str) = "12 5 1 15 14 13 4 10 0 7 6 3 9 2 8 11") = False := eq_false (by decide +kernel)
theorem sq78 : (("13 11 7 14 12 1 3 9 5 0 15 4 8 6 2 10" : Str) = "14 10 4 8 9 15 13 6 1 12 0 2 11 7 5 3") = False := eq_false (by decide +kernel)
theorem sq79 : (("13 11 7 14 12 1 3 9 5 0 15 4 8 6 2 10" : Str) = "2 12 6 10 0 11 8 3 4 13 7 5 15 14 1 9") = False := eq_false (by decide +kernel)
theorem sq80 : (("13 11 7 14 12 1 3 9 5 0 15 4 8 6 2 10" : Str) = "6 15 14 9 11 3 0 8 12 2 13 7 1 4 10 5") = False := eq_false (by decide +kernel)
theorem sq81 : (("13 11 7 14 12 1 3 9 5 0 15 4 8 6 2 10" : Str) = "7 9 3 1 13 12 11 14 2 6 5 10 4 0 15 8") = False := eq_false (by decide +kernel)
theorem sq82 : (("13 11 7 14 12 1 3 9 5 0 15 4 8 6 2 10" : Str) = "9 0 5 7 2 4 10 15 14 1 11 12 6 8 3 13") = False := eq_false (by decide +kernel)
theorem sq83 : (("13 11 7 14 12 1 3 9 5 0 15 4 8 6 2 10" : Str) = "at") = False := eq_false (by decide +kernel)
theorem sq84 : (("13 11 7 14 12 1 3 9 5 0 15 4 8 6 2 10" : Str) = "draws") = False := eq_false (by decide +kernel)
theorem sq85 : (("14 10 4 8 9 15 13 6 1 12 0 2 11 7 5 3" : Str) = " ") = False := eq_false (by decide +kernel)
theorem sq86 : (("14 10 4 8 9 15 13 6 1 12 0 2 11 7 5 3" : Str) = "0 1 2 3 4 5 6 7 8 9 10 11 12 13 14 15") = False := eq_false (by decide +kernel)
theorem sq87 : (("14 10 4 8 9 15 13 6 1 12 0 2 11 7 5 3" : Str) = "10 2 8 4 7 6 1 5 15 11 9 14 3 12 13 0") = False := eq_false (by decide +kernel)
theorem sq88 : (("14 10 4 8 9 15 13 6 1 12 0 2 11 7 5 3" : Str) = "11 8 12 0 5 2 15 13 10 14 3 6 7 1 9 4") = False := eq_false (by decide +kernel)
theorem sq89 : (("14 10 4 8 9 15 13 6 1 12 0 2 11 7 5 3" : Str) = "12 5 1 15 14 13 4 10 0 7 6 3 9 2 8 11") = False := eq_false (by decide +kernel)
theorem sq90 : (("14 10 4 8 9 15 13 6 1 12 0 2 11 7 5 3" : Str) = "13 11 7 14 12 1 3 9 5 0 15 4 8 6 2 10") = False := eq_false (by decide +kernel)
theorem sq91 : (("14 10 4 8 9 15 13 6 1 12 0 2 11 7 5 3" : Str) = "2 12 6 10 0 11 8 3 4 13 7 5 15 14 1 9") = False := eq_false (by decide +kernel)
theorem sq92 : (("14 10 4 8 9 15 13 6 1 12 0 2 11 7 5 3" : Str) = "6 15 14 9 11 3 0 8 12 2 13 7 1 4 10 5") = False := eq_false (by decide +kernel)
theorem sq93 : (("14 10 4 8 9 15 13 6 1 12 0 2 11 7 5 3" : Str) = "7 9 3 1 13 12 11 14 2 6 5 10 4 0 15 8") = False := eq_false (by decide +kernel)
theorem sq94 : (("14 10 4 8 9 15 13 6 1 12 0 2 11 7 5 3" : Str) = "9 0 5 7 2 4 10 15 14 1 11 12 6 8 3 13") = False := eq_false (by decide +kernel)
theorem sq95 : (("14 10 4 8 9 15 13 6 1 12 0 2 11 7 5 3" : Str) = "at") = False := eq_false (by decide +kernel)
theorem sq96 : (("14 10 4 8 9 15 13 6 1 12 0 2 11 7 5 3" : Str) = "draws") = False := eq_false (by decide +kernel)
theorem sq97 : (("2 12 6 10 0 11 8 3 4 13 7 5 15 14 1 9" : Str) = " ") = False := eq_false (by decide +kernel)
theorem sq98 : (("2 12 6 10 0 11 8 3 4 13 7 5 15 14 1 9" : Str) = "0 1 2 3 4 5 6 7 8 9 10 11 12 13 14 15") = False := eq_false (by decide +kernel)
theorem sq99 : (("2 12 6 10 0 11 8 3 4 13 7 5 15 14 1 9" : Str) = "10 2 8 4 7 6 1 5 15 11 9 14 3 12 13 0") = False := eq_false (by decide +kernel)
theorem sq100 : (("2 12 6 10 0 11 8 3 4 13 7 5 15 14 1 9" : Str) = "11 8 12 0 5 2 15 13 10 14 3 6 7 1 9 4") = False := eq_false (by decide +kernel)
theorem sq101 : (("2 12 6 10 0 11 8 3 4 13 7 5 15 14 1 9" : Str) = "12 5 1 15 14 13 4 10 0 7 6 3 9 2 8 11") = False := eq_false (by decide +kernel)
theorem sq102 : (("2 12 6 10 0 11 8 3 4 13 7 5 15 14 1 9" : Str) = "13 11 7 14 12 1 3 9 5 0 15 4 8 6 2 10") = False := eq_false (by decide +kernel)
theorem sq103 : (("2 12 6 10 0 11 8 3 4 13 7 5 15 14 1 9" : Str) = "14 10 4 8 9 15 13 6 1 12 0 2 11 7 5 3") = False := eq_false (by decide +kernel)
theorem sq104 : (("2 12 6 10 0 11 8 3 4 13 7 5 15 14 1 9" : Str) = "6 15 14 9 11 3 0 8 12 2 13 7 1 4 10 5") = False := eq_false (by decide +kernel)
theorem sq105 : (("2 12 6 10 0 11 8 3 4 13 7 5 15 14 1 9" : Str) = "7 9 3 1 13 12 11 14 2 6 5 10 4 0 15 8") = False := eq_false (by decide +kernel)
theorem sq106 : (("2 12 6 10 0 11 8 3 4 13 7 5 15 14 1 9" : Str) = "9 0 5 7 2 4 10 15 14 1 11 12 6 8 3 13") = False := eq_false (by decide +kernel)
theorem sq107 : (("2 12 6 10 0 11 8 3 4 13 7 5 15 14 1 9" : Str) = "at") = False := eq_false (by decide +kernel)
theorem sq108 : (("2 12 6 10 0 11 8 3 4 13 7 5 15 14 1 9" : Str) = "draws") = False := eq_false (by decide +kernel)
theorem sq109 : (("6 15 14 9 11 3 0 8 12 2 13 7 1 4 10 5" : Str) = " ") = False := eq_false (by decide +kernel)
theorem sq110 : (("6 15 14 9 11 3 0 8 12 2 13 7 1 4 10 5" : Str) = "0 1 2 3 4 5 6 7 8 9 10 11 12 13 14 15") = False := eq_false (by decide +kernel)
theorem sq111 : (("6 15 14 9 11 3 0 8 12 2 13 7 1 4 10 5" : Str) = "10 2 8 4 7 6 1 5 15 11 9 14 3 12 13 0") = False := eq_false (by decide +kernel)
theorem sq112 : (("6 15 14 9 11 3 0 8 12 2 13 7 1 4 10 5" : Str) = "11 8 12 0 5 2 15 13 10 14 3 6 7 1 9 4") = False := eq_false (by decide +kernel)
theorem sq113 : (("6 15 14 9 11 3 0 8 12 2 13 7 1 4 10 5" : Str) = "12 5 1 15 14 13 4 10 0 7 6 3 9 2 8 11") = False := eq_false (by decide +kernel)
theorem sq114 : (("6 15 14 9 11 3 0 8 12 2 13 7 1 4 10 5" : Str) = "13 11 7 14 12 1 3 9 5 0 15 4 8 6 2 10") = False := eq_false (by decide +kernel)
theorem sq115 : (("6 15 14 9 11 3 0 8 12 2 13 7 1 4 10 5" : Str) = "14 10 4 8 9 15 13 6 1 12 0 2 11 7 5 3") = False := eq_false (by decide +kernel)
theorem sq116 : (("6 15 14 9 11 3 0 8 12 2 13 7 1 4 10 5" : Str) = "2 12 6 10 0 11 8 3 4 13 7 5 15 14 1 9") = False := eq_false (by decide +kernel)
theorem sq117 : (("6 15 14 9 11 3 0 8 12 2 13 7 1 4 10 5" : Str) = "7 9 3 1 13 12 11 14 2 6 5 10 4 0 15 8") = False := eq_false (by decide +kernel)
theorem sq118 : (("6 15 14 9 11 3 0 8 12 2 13 7 1 4 10 5" : Str) = "9 0 5 7 2 4 10 15 14 1 11 12 6 8 3 13") = False := eq_false (by decide +kernel)
theorem sq119 : (("6 15 14 9 11 3 0 8 12 2 13 7 1 4 10 5" : Str) = "at") = False := eq_false (by decide +kernel)
theorem sq120 : (("6 15 14 9 11 3 0 8 12 2 13 7 1 4 10 5" : Str) = "draws") = False := eq_false (by decide +kernel)
theorem sq121 : (("7 9 3 1 13 12 11 14 2 6 5 10 4 0 15 8" : Str) = " ") = False := eq_false (by decide +kernel)
theorem sq122 : (("7 9 3 1 13 12 11 14 2 6 5 10 4 0 15 8" : Str) = "0 1 2 3 4 5 6 7 8 9 10 11 12 13 14 15") = False := eq_false (by decide +kernel)
theorem sq123 : (("7 9 3 1 13 12 11 14 2 6 5 10 4 0 15 8" : Str) = "10 2 8 4 7 6 1 5 15 11 9 14 3 12 13 0") = False := eq_false (by decide +kernel)
theorem sq124 : (("7 9 3 1 13 12 11 14 2 6 5 10 4 0 15 8" : Str) = "11 8 12 0 5 2 15 13 10 14 3 6 7 1 9 4") = False := eq_false (by decide +kernel)
theorem sq125 : (("7 9 3 1 13 12 11 14 2 6 5 10 4 0 15 8" : Str) = "12 5 1 15 14 13 4 10 0 7 6 3 9 2 8 11") = False := eq_false (by decide +kernel)
theorem sq126 : (("7 9 3 1 13 12 11 14 2 6 5 10 4 0 15 8" : Str) = "13 11 7 14 12 1 3 9 5 0 15 4 8 6 2 10") = False := eq_false (by decide +kernel)
theorem sq127 : (("7 9 3 1 13 12 11 14 2 6 5 10 4 0 15 8" : Str) = "14 10 4 8 9 15 13 6 1 12 0 2 11 7 5 3") = False := eq_false (by decide +kernel)
theorem sq128 : (("7 9 3 1 13 12 11 14 2 6 5 10 4 0 15 8" : Str) = "2 12 6 10 0 11 8 3 4 13 7 5 15 14 1 9") = False := eq_false (by decide +kernel)
theorem sq129 : (("7 9 3 1 13 12 11 14 2 6 5 10 4 0 15 8" : Str) = "6 15 14 9 11 3 0 8 12 2 13 7 1 4 10 5") = False := eq_false (by decide +kernel)
theorem sq130 : (("7 9 3 1 13 12 11 14 2 6 5 10 4 0 15 8" : Str) = "9 0 5 7 2 4 10 15 14 1 11 12 6 8 3 13") = False := eq_false (by decide +kernel)
theorem sq131 : (("7 9 3 1 13 12 11 14 2 6 5 10 4 0 15 8" : Str) = "at") = False := eq_false (by decide +kernel)
theorem sq132 : (("7 9 3 1 13 12 11 14 2 6 5 10 4 0 15 8" : Str) = "draws") = False := eq_false (by decide +kernel)
theorem sq133 : (("9 0 5 7 2 4 10 15 14 1 11 12 6 8 3 13" : Str) = " ") = False := eq_false (by decide +kernel)
theorem sq134 : (("9 0 5 7 2 4 10 15 14 1 11 12 6 8 3 13" : Str) = "0 1 2 3 4 5 6 7 8 9 10 11 12 13 14 15") = False := eq_false (by decide +kernel)
theorem sq135 : (("9 0 5 7 2 4 10 15 14 1 11 12 6 8 3 13" : Str) = "10 2 8 4 7 6 1 5 15 11 9 14 3 12 13 0") = False := eq_false (by decide +kernel)
theorem sq136 : (("9 0 5 7 2 4 10 15 14 1 11 12 6 8 3 13" : Str) = "11 8 12 0 5 2 15 13 10 14 3 6 7 1 9 4") = False := eq_false (by decide +kernel)
theorem sq137 : (("9 0 5 7 2 4 10 15 14 1 11 12 6 8 3 13" : Str) = "12 5 1 15 14 13 4 10 0 7 6 3 9 2 8 11") = False := eq_false (by decide +kernel)
theorem sq138 : (("9 0 5 7 2 4 10 15 14 1 11 12 6 8 3 13" : Str) = "13 11 7 14 12 1 3 9 5 0 15 4 8 6 2 10") = False := eq_false (by decide +kernel)
theorem sq139 : (("9 0 5 7 2 4 10 15 14 1 11 12 6 8 3 13" : Str) = "14 10 4 8 9 15 13 6 1 12 0 2 11 7 5 3") = False := eq_false (by decide +kernel)
theorem sq140 : (("9 0 5 7 2 4 10 15 14 1 11 12 6 8 3 13" : Str) = "2 12 6 10 0 11 8 3 4 13 7 5 15 14 1 9") = False := eq_false (by decide +kernel)
theorem sq141 : (("9 0 5 7 2 4 10 15 14 1 11 12 6 8 3 13" : Str) = "6 15 14 9 11 3 0 8 12 2 13 7 1 4 10 5") = False := eq_false (by decide +kernel)
theorem sq142 : (("9 0 5 7 2 4 10 15 14 1 11 12 6 8 3 13" : Str) = "7 9 3 1 13 12 11 14 2 6 5 10 4 0 15 8") = False := eq_false (by decide +kernel)
theorem sq143 : (("9 0 5 7 2 4 10 15 14 1 11 12 6 8 3 13" : Str) = "at") = False := eq_false (by decide +kernel)
theorem sq144 : (("9 0 5 7 2 4 10 15 14 1 11 12 6 8 3 13" : Str) = "draws") = False := eq_false (by decide +kernel)
theorem sq145 : (("at" : Str) = " ") = False := eq_false (by decide +kernel)
theorem sq146 : (("at" : Str) = "0 1 2 3 4 5 6 7 8 9 10 11 12 13 14 15") = False := eq_false (by decide +kernel)
theorem sq147 : (("at" : Str) = "10 2 8 4 7 6 1 5 15 11 9 14 3 12 13 0") = False := eq_false (by decide +kernel)
theorem sq148 : (("at" : Str) = "11 8 12 0 5 2 15 13 10 14 3 6 7 1 9 4") = False := eq_false (by decide +kernel)
theorem sq149 : (("at" : Str) = "12 5 1 15 14 13 4 10 0 7 6 3 9 2 8 11") = False := eq_false (by decide +kernel)
theorem sq150 : (("at" : Str) = "13 11 7 14 12 1 3 9 5 0 15 4 8 6 2 10") = False := eq_false (by decide +kernel)
theorem sq151 : (("at" : Str) = "14 10 4 8 9 15 13 6 1 12 0 2 11 7 5 3") = False := eq_false (by decide +kernel)
theorem sq152 : (("at" : Str) = "2 12 6 10 0 11 8 3 4 13 7 5 15 14 1 9") = False := eq_false (by decide +kernel)
theorem sq153 : (("at" : Str) = "6 15 14 9 11 3 0 8 12 2 13 7 1 4 10 5") = False := eq_false (by decide +kernel)
theorem sq154 : (("at" : Str) = "7 9 3 1 13 12 11 14 2 6 5 10 4 0 15 8") = False := eq_false (by decide +kernel)
theorem sq155 : (("at" : Str) = "9 0 5 7 2 4 10 15 14 1 11 12 6 8 3 13") = False := eq_false (by decide +kernel)
theorem sq156 : (("at" : Str) = "draws") = False := eq_false (by decide +kernel)
theorem sq157 : (("draws" : Str) = " ") = False := eq_false (by decide +kernel)
theorem sq158 : (("draws" : Str) = "0 1 2 3 4 5 6 7 8 9 10 11 12 13 14 15") = False := eq_false (by decide +kernel)
theorem sq159 : (("draws" : Str) = "10 2 8 4 7 6 1 5 15 11 9 14 3 12 13 0") = False := eq_false (by decide +kernel)
theorem sq160 : (("draws" : Str) = "11 8 12 0 5 2 15 13 10 14 3 6 7 1 9 4") = False := eq_false (by decide +kernel)
theorem sq161 : (("draws" : Str) = "12 5 1 15 14 13 4 10 0 7 6 3 9 2 8 11") = False := eq_false (by decide +kernel)
theorem sq162 : (("draws" : Str) = "13 11 7 14 12 1 3 9 5 0 15 4 8 6 2 10") = False := eq_false (by decide +kernel)
theorem sq163 : (("draws" : Str) = "14 10 4 8 9 15 13 6 1 12 0 2 11 7 5 3") = False := eq_false (by decide +kernel)
theorem sq164 : (("draws" : Str) = "2 12 6 10 0 11 8 3 4 13 7 5 15 14 1 9") = False := eq_false (by decide +kernel)
theorem sq165 : (("draws" : Str) = "6 15 14 9 11 3 0 8 12 2 13 7 1 4 10 5") = False := eq_false (by decide +kernel)
theorem sq166 : (("draws" : Str) = "7 9 3 1 13 12 11 14 2 6 5 10 4 0 15 8") = False := eq_false (by decide +kernel)
theorem sq167 : (("draws" : Str) = "9 0 5 7 2 4 10 15 14 1 11 12 6 8 3 13") = False := eq_false (by decide +kernel)
theorem sq168 : (("draws" : Str) = "at") = False := eq_false (by decide +kernel)
end
/-- what the top has written -/
structure Tx (K : Frag) (mg : Mg) : Prop where
  g_square_root_word : Df K mg "square_root_word" "square_root_word" "square_root_word" zs_square_root_word ["number"]
  g_turn : Df K mg "turn" "turn" "turn" zs_turn ["word", "count"]
  g_quarter : Df K mg "quarter" "quarter" "quarter" zs_quarter ["v", "places", "x", "y"]
  g_initial_words : Df K mg "initial_words" "initial_words" "initial_words" zs_initial_words []
  g_compress : Df K mg "compress" "compress" "compress" zs_compress ["state", "words", "count", "last"]
  g__law_draws : Df K mg "_law_draws" "_law_draws" "_law_draws" zs__law_draws ["script"]
  g__law_take : Df K mg "_law_take" "_law_take" "_law_take" zs__law_take ["m", "many"]
  g__law_octets : Df K mg "_law_octets" "_law_octets" "_law_octets" zs__law_octets ["m", "size"]
  g__law_same : Df K mg "_law_same" "_law_same" "_law_same" zs__law_same ["actual", "due"]
  g__law_root : Df K mg "_law_root" "_law_root" "_law_root" zs__law_root ["number", "power"]
  g__law_initial : Df K mg "_law_initial" "_law_initial" "_law_initial" zs__law_initial []
  g__law_orders : Df K mg "_law_orders" "_law_orders" "_law_orders" zs__law_orders []
  g__law_turned : Df K mg "_law_turned" "_law_turned" "_law_turned" zs__law_turned ["word", "count"]
  g__law_quarter : Df K mg "_law_quarter" "_law_quarter" "_law_quarter" zs__law_quarter ["v", "places", "x", "y"]
  g__law_compressed : Df K mg "_law_compressed" "_law_compressed" "_law_compressed" zs__law_compressed ["state", "words", "count", "last"]
  g__law_word : Df K mg "_law_word" "_law_word" "_law_word" zs__law_word ["m"]
  y_isqrt : mg "isqrt" = some (.builtin "math.isqrt")
  m_MASK_roots : Cs K mg "MASK_roots" k_MASK_roots
  m_MASK_blake : Cs K mg "MASK_blake" k_MASK_blake
  m_PRIMES : Cs K mg "PRIMES" k_PRIMES
  z_tuple : mg "tuple" = none
  z_list : mg "list" = none
  z_range : mg "range" = none
  m_ORDERS : Cs K mg "ORDERS" k_ORDERS
  m_PLACES : Cs K mg "PLACES" k_PLACES
  z_enumerate : mg "enumerate" = none
  z_abs : mg "abs" = none
  z_int : mg "int" = none
  z_len : mg "len" = none
  z_isinstance : mg "isinstance" = none
  z_bool : mg "bool" = none
  z_all : mg "all" = none
section
variable {P : PySem.Program} {w : PySem.World} {K : Frag} {mg : Mg} {base : PySem.Heap}
theorem p_square_root_word (t : Tx K mg) : BodyOk P w K mg base n_square_root_word "square_root_word" zs_square_root_word 0 b_square_root_word := fun f cdv A outer s w0 Ex hr tk po => b_one (b_ret (s_and (s_isqrt (by rfl) t.y_isqrt (s_shl (s_var 0) (s_int))) (s_cst t.m_MASK_roots)))
theorem d_square_root_word (t : Tx K mg) : DefOk P w K mg base 1 "square_root_word" 1 f_square_root_word := def_ok t.g_square_root_word sc_square_root_word (by decide) (p_square_root_word t)
theorem p_turn (t : Tx K mg) : BodyOk P w K mg base n_turn "turn" zs_turn 0 b_turn := fun f cdv A outer s w0 Ex hr tk po => b_one (b_ret (s_and (s_or (s_shr (s_var 0) (s_var 1)) (s_shl (s_var 0) (s_sub (s_int) (s_var 1)))) (s_cst t.m_MASK_blake)))
theorem d_turn (t : Tx K mg) : DefOk P w K mg base 1 "turn" 2 f_turn := def_ok t.g_turn sc_turn (by decide) (p_turn t)
theorem p_quarter (t : Tx K mg) : BodyOk P w K mg base n_quarter "quarter" zs_quarter 1 b_quarter := fun f cdv A outer s w0 Ex hr tk po => b_cons (b_unp rfl (s_var 1) (gs_cons 4 sc_quarter.nd (gs_cons 5 sc_quarter.nd (gs_cons 6 sc_quarter.nd (gs_cons 7 sc_quarter.nd (gs_nil)))))) (b_cons (b_setHp (s_and (s_add (s_add (s_ix (s_var 0) (s_var 4)) (s_ix (s_var 0) (s_var 5))) (s_var 2)) (s_cst t.m_MASK_blake)) (s_var 0) (s_var 4)) (b_cons (b_setHp (s_call (d_turn t) tk hr (anS (anS an0)) (sa_cons (s_xor (s_ix (s_var 0) (s_var 7)) (s_ix (s_var 0) (s_var 4))) (sa_cons (s_int) (sa_nil)))) (s_var 0) (s_var 7)) (b_cons (b_setHp (s_and (s_add (s_ix (s_var 0) (s_var 6)) (s_ix (s_var 0) (s_var 7))) (s_cst t.m_MASK_blake)) (s_var 0) (s_var 6)) (b_cons (b_setHp (s_call (d_turn t) tk hr (anS (anS an0)) (sa_cons (s_xor (s_ix (s_var 0) (s_var 5)) (s_ix (s_var 0) (s_var 6))) (sa_cons (s_int) (sa_nil)))) (s_var 0) (s_var 5)) (b_cons (b_setHp (s_and (s_add (s_add (s_ix (s_var 0) (s_var 4)) (s_ix (s_var 0) (s_var 5))) (s_var 3)) (s_cst t.m_MASK_blake)) (s_var 0) (s_var 4)) (b_cons (b_setHp (s_call (d_turn t) tk hr (anS (anS an0)) (sa_cons (s_xor (s_ix (s_var 0) (s_var 7)) (s_ix (s_var 0) (s_var 4))) (sa_cons (s_int) (sa_nil)))) (s_var 0) (s_var 7)) (b_cons (b_setHp (s_and (s_add (s_ix (s_var 0) (s_var 6)) (s_ix (s_var 0) (s_var 7))) (s_cst t.m_MASK_blake)) (s_var 0) (s_var 6)) (b_one (b_setHp (s_call (d_turn t) tk hr (anS (anS an0)) (sa_cons (s_xor (s_ix (s_var 0) (s_var 5)) (s_ix (s_var 0) (s_var 6))) (sa_cons (s_int) (sa_nil)))) (s_var 0) (s_var 5))))))))))
theorem d_quarter (t : Tx K mg) : DefOk P w K mg base 2 "quarter" 4 f_quarter := def_ok t.g_quarter sc_quarter (by decide) (p_quarter t)
theorem p_initial_words (t : Tx K mg) : BodyOk P w K mg base n_initial_words "initial_words" zs_initial_words 1 b_initial_words := fun f cdv A outer s w0 Ex hr tk po => b_one (b_ret (s_tuple (by rfl) t.z_tuple (s_lc (own := [("prime", 0)]) rfl sc_initial_words.nd (by exact blk_by (N := n_initial_words) (sc := defScope zs_initial_words) (by decide +kernel)) (i_seqE (s_sl (s_cst t.m_PRIMES) p_none (p_some (s_int)))) (by exact fun i h => h) (fun _ _ _ _ _ => g_nm 0 sc_initial_words.nd) (fun _ _ _ _ _ => t_yes) (fun _ _ _ _ _ => s_call (d_square_root_word t) takes0 hr (anS an0) (sa_cons (s_var 0) (sa_nil))))))
theorem d_initial_words (t : Tx K mg) : DefOk P w K mg base 2 "initial_words" 0 f_initial_words := def_ok t.g_initial_words sc_initial_words (by decide) (p_initial_words t)
theorem p_compress (t : Tx K mg) : BodyOk P w K mg base n_compress "compress" zs_compress 2 b_compress := fun f cdv A outer s w0 Ex hr tk po => b_cons (b_heap (g_set sc_compress.nd (s_add (s_list (by rfl) t.z_list (s_var 0)) (s_list (by rfl) t.z_list (s_call0 (d_initial_words t) tk hr))))) (b_cons (b_setHp (s_xor (s_ix (s_var 4) (s_int)) (s_and (s_var 2) (s_cst t.m_MASK_blake))) (s_var 4) (s_int)) (b_cons (b_setHp (s_xor (s_ix (s_var 4) (s_int)) (s_and (s_shr (s_var 2) (s_int)) (s_cst t.m_MASK_blake))) (s_var 4) (s_int)) (b_cons (b_if (st_tru (s_var 3)) (b_one (b_setHp (s_xor (s_ix (s_var 4) (s_int)) (s_cst t.m_MASK_blake)) (s_var 4) (s_int))) (b_nil)) (b_cons (b_for po rfl (i_rng1 (by rfl) t.z_range (s_int)) (g_nm 5 sc_compress.nd) (fun _ _ => b_cons (b_set' (g_set sc_compress.nd (s_ix (s_cst t.m_ORDERS) (s_mod (s_var 5) (s_int))))) (b_one (b_for po rfl (i_num (by rfl) t.z_enumerate (s_cst t.m_PLACES)) (g_tp rfl (gs_cons 7 sc_compress.nd (gs_cons 8 sc_compress.nd (gs_nil)))) (fun _ _ => b_one (b_expr (s_call (d_quarter t) tk hr (anS (anS (anS (anS an0)))) (sa_cons (s_var 4) (sa_cons (s_var 8) (sa_cons (s_ix (s_var 1) (s_ix (s_var 6) (s_mul (s_int) (s_var 7)))) (sa_cons (s_ix (s_var 1) (s_ix (s_var 6) (s_add (s_mul (s_int) (s_var 7)) (s_int)))) (sa_nil)))))))))))) (b_one (b_ret (s_tuple (by rfl) t.z_tuple (s_lc (own := [("k", 7)]) rfl sc_compress.nd (by exact blk_by (N := n_compress) (sc := defScope zs_compress) (by decide +kernel)) (i_e (i_rng1 (by rfl) t.z_range (s_int))) (by exact fun i h => h) (fun _ _ _ _ _ => g_nm 7 sc_compress.nd) (fun _ _ _ _ _ => t_yes) (fun _ _ _ _ _ => s_xor (s_xor (s_ix (s_var 0) (s_var 7)) (s_ix (s_var 4) (s_var 7))) (s_ix (s_var 4) (s_add (s_var 7) (s_int))))))))))))
theorem d_compress (t : Tx K mg) : DefOk P w K mg base 3 "compress" 4 f_compress := def_ok t.g_compress sc_compress (by decide) (p_compress t)
theorem p__law_draws (t : Tx K mg) : BodyOk P w K mg base n__law_draws "_law_draws" zs__law_draws 0 b__law_draws := fun f cdv A outer s w0 Ex hr tk po => b_cons (b_own' (g_set sc__law_draws.nd (s_lst (sa_nil)))) (b_cons (b_for po rfl (i_seq (s_sl (s_var 0) p_none (p_some (s_int)))) (g_nm 2 sc__law_draws.nd) (fun _ _ => b_cons (b_set' (g_set sc__law_draws.nd (s_abs (by rfl) t.z_abs (s_var 2)))) (b_one (b_if (st_ge (s_var 3) (s_int)) (b_one (b_for po rfl (i_rng1 (by rfl) t.z_range (s_int)) (g_nm 4 sc__law_draws.nd) (fun _ _ => b_one (b_if (st_gt (s_var 3) (s_int)) (b_cons (b_app 1 (s_mod (s_toInt (by rfl) t.z_int (s_var 3)) (s_int))) (b_one (b_set' (g_set sc__law_draws.nd (s_div (s_var 3) (s_int)))))) (b_nil))))) (b_cons (b_set' (g_set sc__law_draws.nd (s_mod (s_toInt (by rfl) t.z_int (s_add (s_mul (s_var 3) (s_int)) (s_int))) (s_int)))) (b_one (b_for po rfl (i_rng1 (by rfl) t.z_range (s_int)) (g_nm 4 sc__law_draws.nd) (fun _ _ => b_cons (b_set' (g_set sc__law_draws.nd (s_mod (s_toInt (by rfl) t.z_int (s_add (s_add (s_mul (s_var 5) (s_int)) (s_mul (s_int) (s_var 4))) (s_int))) (s_int)))) (b_one (b_app 1 (s_div (s_var 5) (s_int)))))))))))) (b_one (b_retOwn (i := 1))))
theorem d__law_draws (t : Tx K mg) : DefOk P w K mg base 1 "_law_draws" 1 f__law_draws := def_ok t.g__law_draws sc__law_draws (by decide) (p__law_draws t)
theorem p__law_take (t : Tx K mg) : BodyOk P w K mg base n__law_take "_law_take" zs__law_take 0 b__law_take := fun f cdv A outer s w0 Ex hr tk po => b_cons (b_set' (g_set sc__law_take.nd (s_dget hr.units (s_var 0) (s_str)))) (b_cons (b_if (st_ge (s_var 2) (s_len (by rfl) t.z_len (s_dget hr.units (s_var 0) (s_str)))) (b_one (b_ret (s_int))) (b_nil)) (b_cons (b_dset hr.units (s_add (s_var 2) (s_int)) (s_var 0) (s_str)) (b_one (b_ret (s_mod (s_toInt (by rfl) t.z_int (s_ix (s_dget hr.units (s_var 0) (s_str)) (s_var 2))) (s_var 1))))))
theorem d__law_take (t : Tx K mg) : DefOk P w K mg base 1 "_law_take" 2 f__law_take := def_ok t.g__law_take sc__law_take (by decide) (p__law_take t)
theorem p__law_octets (t : Tx K mg) : BodyOk P w K mg base n__law_octets "_law_octets" zs__law_octets 1 b__law_octets := fun f cdv A outer s w0 Ex hr tk po => b_cons (b_set' (g_set sc__law_octets.nd (s_add (s_add (s_int) (s_mul (s_call (d__law_take t) tk hr (anS (anS an0)) (sa_cons (s_var 0) (sa_cons (s_int) (sa_nil)))) (s_int))) (s_call (d__law_take t) tk hr (anS (anS an0)) (sa_cons (s_var 0) (sa_cons (s_int) (sa_nil))))))) (b_cons (b_own' (g_set sc__law_octets.nd (s_lst (sa_nil)))) (b_cons (b_for po rfl (i_rng1 (by rfl) t.z_range (s_var 1)) (g_nm 4 sc__law_octets.nd) (fun _ _ => b_cons (b_set' (g_set sc__law_octets.nd (s_mod (s_toInt (by rfl) t.z_int (s_add (s_mul (s_var 2) (s_int)) (s_int))) (s_int)))) (b_one (b_app 3 (s_and (s_div (s_var 2) (s_int)) (s_int)))))) (b_one (b_ret (s_tuple (by rfl) t.z_tuple (s_var 3))))))
theorem d__law_octets (t : Tx K mg) : DefOk P w K mg base 2 "_law_octets" 2 f__law_octets := def_ok t.g__law_octets sc__law_octets (by decide) (p__law_octets t)
theorem p__law_same (t : Tx K mg) : BodyOk P w K mg base n__law_same "_law_same" zs__law_same 0 b__law_same := fun f cdv A outer s w0 Ex hr tk po => b_cons (b_if ((sw_or (st_not (st_val (s_isT kit_tuple (by rfl) t.z_isinstance (by rfl) t.z_tuple (by decide +kernel) (s_var 0)))) (sw_or1 (st_ne hr.units (s_len (by rfl) t.z_len (s_var 0)) (s_len (by rfl) t.z_len (s_var 1))))).pt) (b_one (b_ret (s_bl))) (b_nil)) (b_one (b_ret (s_andV (s_all rfl (by rfl) t.z_all (s_lc (own := [("n", 2)]) rfl sc__law_same.nd (by exact blk_by (N := n__law_same) (sc := defScope zs__law_same) (by decide +kernel)) (i_seqE (s_var 0)) (by exact fun i h => h) (fun _ _ _ _ _ => g_nm 2 sc__law_same.nd) (fun _ _ _ _ _ => t_yes) (fun _ _ _ _ _ => s_andV (s_isT kit_int (by rfl) t.z_isinstance (by rfl) t.z_int (by decide +kernel) (s_var 2)) (s_one (s_notV (s_isT kit_bool (by rfl) t.z_isinstance (by rfl) t.z_bool (by decide +kernel) (s_var 2))))))) (s_one (s_eq hr.units (s_var 0) (s_var 1))))))
theorem d__law_same (t : Tx K mg) : DefOk P w K mg base 1 "_law_same" 2 f__law_same := def_ok t.g__law_same sc__law_same (by decide) (p__law_same t)
theorem p__law_root (t : Tx K mg) : BodyOk P w K mg base n__law_root "_law_root" zs__law_root 0 b__law_root := fun f cdv A outer s w0 Ex hr tk po => b_cons (b_set' (g_set sc__law_root.nd (s_int))) (b_cons (b_set' (g_set sc__law_root.nd (s_shl (s_int) (s_int)))) (b_cons (b_while fuel po (st_gt (s_sub (s_var 3) (s_var 2)) (s_int)) (b_cons (b_set' (g_set sc__law_root.nd (s_div (s_add (s_var 2) (s_var 3)) (s_int)))) (b_cons (b_set' (g_set sc__law_root.nd (s_if (st_eq hr.units (s_var 1) (s_int)) (s_var 4) (s_int)))) (b_one (b_if (st_le (s_mul (s_mul (s_var 4) (s_var 4)) (s_var 5)) (s_shl (s_var 0) (s_mul (s_int) (s_var 1)))) (b_one (b_set' (g_set sc__law_root.nd (s_var 4)))) (b_one (b_set' (g_set sc__law_root.nd (s_var 4))))))))) (b_one (b_ret (s_and (s_var 2) (s_int))))))
theorem d__law_root (t : Tx K mg) : DefOk P w K mg base 1 "_law_root" 2 f__law_root := def_ok t.g__law_root sc__law_root (by decide) (p__law_root t)
theorem p__law_initial (t : Tx K mg) : BodyOk P w K mg base n__law_initial "_law_initial" zs__law_initial 1 b__law_initial := fun f cdv A outer s w0 Ex hr tk po => b_one (b_ret (s_lc (own := [("prime", 0)]) rfl sc__law_initial.nd (by exact blk_by (N := n__law_initial) (sc := defScope zs__law_initial) (by decide +kernel)) (i_seqE (s_tup (sa_cons (s_int) (sa_cons (s_int) (sa_cons (s_int) (sa_cons (s_int) (sa_cons (s_int) (sa_cons (s_int) (sa_cons (s_int) (sa_cons (s_int) (sa_nil))))))))))) (by exact fun i h => h) (fun _ _ _ _ _ => g_nm 0 sc__law_initial.nd) (fun _ _ _ _ _ => t_yes) (fun _ _ _ _ _ => s_call (d__law_root t) takes0 hr (anS (anS an0)) (sa_cons (s_var 0) (sa_cons (s_int) (sa_nil))))))
theorem d__law_initial (t : Tx K mg) : DefOk P w K mg base 2 "_law_initial" 0 f__law_initial := def_ok t.g__law_initial sc__law_initial (by decide) (p__law_initial t)
theorem p__law_orders (t : Tx K mg) : BodyOk P w K mg base n__law_orders "_law_orders" zs__law_orders 0 b__law_orders := fun f cdv A outer s w0 Ex hr tk po => b_cons (b_set' (g_set sc__law_orders.nd (s_lst (sa_cons (s_str) (sa_cons (s_str) (sa_nil)))))) (b_cons (b_set' (g_set sc__law_orders.nd (s_add (s_var 0) (s_lst (sa_cons (s_str) (sa_cons (s_str) (sa_nil))))))) (b_cons (b_set' (g_set sc__law_orders.nd (s_add (s_var 0) (s_lst (sa_cons (s_str) (sa_cons (s_str) (sa_nil))))))) (b_cons (b_set' (g_set sc__law_orders.nd (s_add (s_var 0) (s_lst (sa_cons (s_str) (sa_cons (s_str) (sa_nil))))))) (b_cons (b_set' (g_set sc__law_orders.nd (s_add (s_var 0) (s_lst (sa_cons (s_str) (sa_cons (s_str) (sa_nil))))))) (b_cons (b_set' (g_set sc__law_orders.nd (s_add (s_var 0) (s_sl (s_var 0) p_none (p_some (s_int)))))) (b_one (b_ret (s_lc (own := [("row", 1)]) rfl sc__law_orders.nd (by exact blk_by (N := n__law_orders) (sc := defScope zs__law_orders) (by decide +kernel)) (i_seqE (s_var 0)) (by exact fun i h => h) (fun _ _ _ _ _ => g_nm 1 sc__law_orders.nd) (fun _ _ _ _ _ => t_yes) (fun _ _ _ _ _ => s_lc (own := [("word", 2)]) rfl sc__law_orders.nd (by exact blk_by (N := n__law_orders) (by kernel_rfl)) (i_seqE (s_split (s_var 1) (s_str))) (by exact fun i h => h) (fun _ _ _ _ _ => g_nm 2 sc__law_orders.nd) (fun _ _ _ _ _ => t_yes) (fun _ _ _ _ _ => s_intS (by rfl) t.z_int (s_var 2)))))))))))
theorem d__law_orders (t : Tx K mg) : DefOk P w K mg base 1 "_law_orders" 0 f__law_orders := def_ok t.g__law_orders sc__law_orders (by decide) (p__law_orders t)
theorem p__law_turned (t : Tx K mg) : BodyOk P w K mg base n__law_turned "_law_turned" zs__law_turned 0 b__law_turned := fun f cdv A outer s w0 Ex hr tk po => b_one (b_ret (s_and (s_or (s_shr (s_var 0) (s_var 1)) (s_shl (s_var 0) (s_sub (s_int) (s_var 1)))) (s_int)))
theorem d__law_turned (t : Tx K mg) : DefOk P w K mg base 1 "_law_turned" 2 f__law_turned := def_ok t.g__law_turned sc__law_turned (by decide) (p__law_turned t)
theorem p__law_quarter (t : Tx K mg) : BodyOk P w K mg base n__law_quarter "_law_quarter" zs__law_quarter 1 b__law_quarter := fun f cdv A outer s w0 Ex hr tk po => b_cons (b_unp rfl (s_var 1) (gs_cons 4 sc__law_quarter.nd (gs_cons 5 sc__law_quarter.nd (gs_cons 6 sc__law_quarter.nd (gs_cons 7 sc__law_quarter.nd (gs_nil)))))) (b_one (b_for po rfl (i_seq (s_tup (sa_cons (s_tup (sa_cons (s_var 2) (sa_cons (s_int) (sa_cons (s_int) (sa_nil))))) (sa_cons (s_tup (sa_cons (s_var 3) (sa_cons (s_int) (sa_cons (s_int) (sa_nil))))) (sa_nil))))) (g_tp rfl (gs_cons 8 sc__law_quarter.nd (gs_cons 9 sc__law_quarter.nd (gs_cons 10 sc__law_quarter.nd (gs_nil))))) (fun _ _ => b_cons (b_setHp (s_and (s_add (s_add (s_ix (s_var 0) (s_var 4)) (s_ix (s_var 0) (s_var 5))) (s_var 8)) (s_int)) (s_var 0) (s_var 4)) (b_cons (b_setHp (s_call (d__law_turned t) tk hr (anS (anS an0)) (sa_cons (s_xor (s_ix (s_var 0) (s_var 7)) (s_ix (s_var 0) (s_var 4))) (sa_cons (s_var 9) (sa_nil)))) (s_var 0) (s_var 7)) (b_cons (b_setHp (s_and (s_add (s_ix (s_var 0) (s_var 6)) (s_ix (s_var 0) (s_var 7))) (s_int)) (s_var 0) (s_var 6)) (b_one (b_setHp (s_call (d__law_turned t) tk hr (anS (anS an0)) (sa_cons (s_xor (s_ix (s_var 0) (s_var 5)) (s_ix (s_var 0) (s_var 6))) (sa_cons (s_var 10) (sa_nil)))) (s_var 0) (s_var 5))))))))
theorem d__law_quarter (t : Tx K mg) : DefOk P w K mg base 2 "_law_quarter" 4 f__law_quarter := def_ok t.g__law_quarter sc__law_quarter (by decide) (p__law_quarter t)
theorem p__law_compressed (t : Tx K mg) : BodyOk P w K mg base n__law_compressed "_law_compressed" zs__law_compressed 2 b__law_compressed := fun f cdv A outer s w0 Ex hr tk po => b_cons (b_heap (g_set sc__law_compressed.nd (s_add (s_list (by rfl) t.z_list (s_var 0)) (s_call0 (d__law_initial t) tk hr)))) (b_cons (b_setHp (s_xor (s_ix (s_var 4) (s_int)) (s_and (s_var 2) (s_int))) (s_var 4) (s_int)) (b_cons (b_setHp (s_xor (s_ix (s_var 4) (s_int)) (s_and (s_shr (s_var 2) (s_int)) (s_int))) (s_var 4) (s_int)) (b_cons (b_if (st_tru (s_var 3)) (b_one (b_setHp (s_xor (s_ix (s_var 4) (s_int)) (s_int)) (s_var 4) (s_int))) (b_nil)) (b_cons (b_set' (g_set sc__law_compressed.nd (s_lst (sa_cons (s_tup (sa_cons (s_int) (sa_cons (s_int) (sa_cons (s_int) (sa_cons (s_int) (sa_nil)))))) (sa_cons (s_tup (sa_cons (s_int) (sa_cons (s_int) (sa_cons (s_int) (sa_cons (s_int) (sa_nil)))))) (sa_cons (s_tup (sa_cons (s_int) (sa_cons (s_int) (sa_cons (s_int) (sa_cons (s_int) (sa_nil)))))) (sa_cons (s_tup (sa_cons (s_int) (sa_cons (s_int) (sa_cons (s_int) (sa_cons (s_int) (sa_nil)))))) (sa_cons (s_tup (sa_cons (s_int) (sa_cons (s_int) (sa_cons (s_int) (sa_cons (s_int) (sa_nil)))))) (sa_cons (s_tup (sa_cons (s_int) (sa_cons (s_int) (sa_cons (s_int) (sa_cons (s_int) (sa_nil)))))) (sa_cons (s_tup (sa_cons (s_int) (sa_cons (s_int) (sa_cons (s_int) (sa_cons (s_int) (sa_nil)))))) (sa_cons (s_tup (sa_cons (s_int) (sa_cons (s_int) (sa_cons (s_int) (sa_cons (s_int) (sa_nil)))))) (sa_nil)))))))))))) (b_cons (b_for po rfl (i_seq (s_call0 (d__law_orders t) tk hr)) (g_nm 6 sc__law_compressed.nd) (fun _ _ => b_one (b_for po rfl (i_rng1 (by rfl) t.z_range (s_int)) (g_nm 7 sc__law_compressed.nd) (fun _ _ => b_one (b_expr (s_call (d__law_quarter t) tk hr (anS (anS (anS (anS an0)))) (sa_cons (s_var 4) (sa_cons (s_ix (s_var 5) (s_var 7)) (sa_cons (s_ix (s_var 1) (s_ix (s_var 6) (s_mul (s_int) (s_var 7)))) (sa_cons (s_ix (s_var 1) (s_ix (s_var 6) (s_add (s_mul (s_int) (s_var 7)) (s_int)))) (sa_nil))))))))))) (b_one (b_ret (s_tuple (by rfl) t.z_tuple (s_lc (own := [("k", 7)]) rfl sc__law_compressed.nd (by exact blk_by (N := n__law_compressed) (sc := defScope zs__law_compressed) (by decide +kernel)) (i_e (i_rng1 (by rfl) t.z_range (s_int))) (by exact fun i h => h) (fun _ _ _ _ _ => g_nm 7 sc__law_compressed.nd) (fun _ _ _ _ _ => t_yes) (fun _ _ _ _ _ => s_xor (s_xor (s_ix (s_var 0) (s_var 7)) (s_ix (s_var 4) (s_var 7))) (s_ix (s_var 4) (s_add (s_var 7) (s_int)))))))))))))
theorem d__law_compressed (t : Tx K mg) : DefOk P w K mg base 3 "_law_compressed" 4 f__law_compressed := def_ok t.g__law_compressed sc__law_compressed (by decide) (p__law_compressed t)
theorem p__law_word (t : Tx K mg) : BodyOk P w K mg base n__law_word "_law_word" zs__law_word 2 b__law_word := fun f cdv A outer s w0 Ex hr tk po => b_cons (b_set' (g_set sc__law_word.nd (s_call (d__law_take t) tk hr (anS (anS an0)) (sa_cons (s_var 0) (sa_cons (s_int) (sa_nil)))))) (b_cons (b_if (st_eq hr.units (s_var 1) (s_int)) (b_one (b_ret (s_ix (s_lst (sa_cons (s_int) (sa_cons (s_int) (sa_cons (s_shl (s_int) (s_call (d__law_take t) tk hr (anS (anS an0)) (sa_cons (s_var 0) (sa_cons (s_int) (sa_nil))))) (sa_nil))))) (s_call (d__law_take t) tk hr (anS (anS an0)) (sa_cons (s_var 0) (sa_cons (s_int) (sa_nil))))))) (b_nil)) (b_cons (b_set' (g_set sc__law_word.nd (s_int))) (b_cons (b_for po rfl (i_seq (s_call (d__law_octets t) tk hr (anS (anS an0)) (sa_cons (s_var 0) (sa_cons (s_int) (sa_nil))))) (g_nm 3 sc__law_word.nd) (fun _ _ => b_one (b_set' (g_set sc__law_word.nd (s_add (s_mul (s_var 2) (s_int)) (s_var 3)))))) (b_one (b_ret (s_var 2))))))
theorem d__law_word (t : Tx K mg) : DefOk P w K mg base 3 "_law_word" 1 f__law_word := def_ok t.g__law_word sc__law_word (by decide) (p__law_word t)
theorem p_law (t : Tx K mg) : BodyOk P w K mg base n_law "law" zs_law 3 b_law := fun f cdv A outer s w0 Ex hr tk po => b_cons (b_set' (g_set sc_law.nd (s_dict (dp_cons (s_call (d__law_draws t) tk hr (anS an0) (sa_cons (s_var 0) (sa_nil))) (dp_cons (s_int) dp_nil))))) (b_cons (b_set' (g_lc (own := [("k", 3)]) rfl sc_law.nd (by exact blk_by (N := n_law) (sc := defScope zs_law) (by decide +kernel)) (i_e (i_rng1 (by rfl) t.z_range (s_int))) (by exact fun i h => h) (fun _ _ _ _ _ => g_nm 3 sc_law.nd) (fun _ _ _ _ _ => t_yes) (fun _ _ _ _ _ => s_call (d__law_word t) takes0 hr (anS an0) (sa_cons (s_var 1) (sa_nil))) rfl)) (b_cons (b_set' (g_lc (own := [("k", 3)]) rfl sc_law.nd (by exact blk_by (N := n_law) (sc := defScope zs_law) (by decide +kernel)) (i_e (i_rng1 (by rfl) t.z_range (s_int))) (by exact fun i h => h) (fun _ _ _ _ _ => g_nm 3 sc_law.nd) (fun _ _ _ _ _ => t_yes) (fun _ _ _ _ _ => s_call (d__law_word t) takes0 hr (anS an0) (sa_cons (s_var 1) (sa_nil))) rfl)) (b_cons (b_if (st_eq hr.units (s_call (d__law_take t) tk hr (anS (anS an0)) (sa_cons (s_var 1) (sa_cons (s_int) (sa_nil)))) (s_int)) (b_one (b_set' (g_set sc_law.nd (s_mul (s_lst (sa_cons (s_ix (s_var 4) (s_int)) (sa_nil))) (s_int))))) (b_nil)) (b_cons (b_set' (g_set sc_law.nd (s_ix (s_lst (sa_cons (s_int) (sa_cons (s_int) (sa_cons (s_call (d__law_take t) tk hr (anS (anS an0)) (sa_cons (s_var 1) (sa_cons (s_int) (sa_nil)))) (sa_cons (s_shl (s_int) (s_int)) (sa_cons (s_sub (s_shl (s_int) (s_int)) (s_int)) (sa_cons (s_int) (sa_nil)))))))) (s_call (d__law_take t) tk hr (anS (anS an0)) (sa_cons (s_var 1) (sa_cons (s_int) (sa_nil))))))) (b_cons (b_set' (g_set sc_law.nd (s_eq hr.units (s_call (d__law_take t) tk hr (anS (anS an0)) (sa_cons (s_var 1) (sa_cons (s_int) (sa_nil)))) (s_int)))) (b_cons (b_set' (g_set sc_law.nd (s_call (d__law_compressed t) tk hr (anS (anS (anS (anS an0)))) (sa_cons (s_var 2) (sa_cons (s_var 4) (sa_cons (s_var 5) (sa_cons (s_var 6) (sa_nil)))))))) (b_cons (b_set' (g_set sc_law.nd (s_lst (sa_cons (s_list (by rfl) t.z_list (s_var 2)) (sa_cons (s_list (by rfl) t.z_list (s_var 4)) (sa_nil)))))) (b_cons (b_if ((sw_or (st_not (st_tru (s_call (d__law_same t) tk hr (anS (anS an0)) (sa_cons (s_call (d_compress t) tk hr (anS (anS (anS (anS an0)))) (sa_cons (s_var 2) (sa_cons (s_var 4) (sa_cons (s_var 5) (sa_cons (s_var 6) (sa_nil)))))) (sa_cons (s_var 7) (sa_nil)))))) (sw_or1 (st_ne hr.units (s_lst (sa_cons (s_var 2) (sa_cons (s_var 4) (sa_nil)))) (s_var 8)))).pt) (b_one (b_ret (s_bl))) (b_nil)) (b_one (b_ret (s_call (d__law_same t) tk hr (anS (anS an0)) (sa_cons (s_call (d_compress t) tk hr (anS (anS (anS (anS an0)))) (sa_cons (s_tuple (by rfl) t.z_tuple (s_var 2)) (sa_cons (s_tuple (by rfl) t.z_tuple (s_var 4)) (sa_cons (s_var 5) (sa_cons (s_var 6) (sa_nil)))))) (sa_cons (s_var 7) (sa_nil))))))))))))))
end
set_option maxHeartbeats 0 in
theorem all_mk {l : PySem.W.OpenLaw} {w : PySem.World} {K : Frag} {h : PySem.Heap} {mg : Mg} {fa : Addr} (X : K.In h) (G : h.Ns PySem.mainGlobals mg) (hfa : mg "law" = some (.ref fa))
    {f1 : Addr} {od1 an1 : Option Addr} {sl1 : Array (Option PySem.Value)} {oc1 kV1 dc1 pm1 cd1 ct1 : PySem.Value} {f2 : Addr} {od2 an2 : Option Addr} {sl2 : Array (Option PySem.Value)} {oc2 kV2 dc2 pm2 cd2 ct2 : PySem.Value} {f3 : Addr} {od3 an3 : Option Addr} {sl3 : Array (Option PySem.Value)} {oc3 kV3 dc3 pm3 cd3 ct3 : PySem.Value} {f4 : Addr} {od4 an4 : Option Addr} {sl4 : Array (Option PySem.Value)} {oc4 kV4 dc4 pm4 cd4 ct4 : PySem.Value} {f5 : Addr} {od5 an5 : Option Addr} {sl5 : Array (Option PySem.Value)} {oc5 kV5 dc5 pm5 cd5 ct5 : PySem.Value} {f6 : Addr} {od6 an6 : Option Addr} {sl6 : Array (Option PySem.Value)} {oc6 kV6 dc6 pm6 cd6 ct6 : PySem.Value} {f7 : Addr} {od7 an7 : Option Addr} {sl7 : Array (Option PySem.Value)} {oc7 kV7 dc7 pm7 cd7 ct7 : PySem.Value} {f8 : Addr} {od8 an8 : Option Addr} {sl8 : Array (Option PySem.Value)} {oc8 kV8 dc8 pm8 cd8 ct8 : PySem.Value} {f9 : Addr} {od9 an9 : Option Addr} {sl9 : Array (Option PySem.Value)} {oc9 kV9 dc9 pm9 cd9 ct9 : PySem.Value} {f10 : Addr} {od10 an10 : Option Addr} {sl10 : Array (Option PySem.Value)} {oc10 kV10 dc10 pm10 cd10 ct10 : PySem.Value} {f11 : Addr} {od11 an11 : Option Addr} {sl11 : Array (Option PySem.Value)} {oc11 kV11 dc11 pm11 cd11 ct11 : PySem.Value} {f12 : Addr} {od12 an12 : Option Addr} {sl12 : Array (Option PySem.Value)} {oc12 kV12 dc12 pm12 cd12 ct12 : PySem.Value} {f13 : Addr} {od13 an13 : Option Addr} {sl13 : Array (Option PySem.Value)} {oc13 kV13 dc13 pm13 cd13 ct13 : PySem.Value} {f14 : Addr} {od14 an14 : Option Addr} {sl14 : Array (Option PySem.Value)} {oc14 kV14 dc14 pm14 cd14 ct14 : PySem.Value} {f15 : Addr} {od15 an15 : Option Addr} {sl15 : Array (Option PySem.Value)} {oc15 kV15 dc15 pm15 cd15 ct15 : PySem.Value} {f16 : Addr} {od16 an16 : Option Addr} {sl16 : Array (Option PySem.Value)} {oc16 kV16 dc16 pm16 cd16 ct16 : PySem.Value} {f17 : Addr} {od17 an17 : Option Addr} {sl17 : Array (Option PySem.Value)} {oc17 kV17 dc17 pm17 cd17 ct17 : PySem.Value} {t19_1 : PySem.Tok} {t20_1 : PySem.Tok} {q21_1 : Addr} {qd21_1 : Option Addr} {qn21_1 : Nat} {qs21_1 : Array (Option PySem.Value)} {t21_2 : PySem.Tok} {t21_3 : PySem.Tok} {t21_4 : PySem.Tok} {t21_5 : PySem.Tok} {t21_6 : PySem.Tok} {t21_7 : PySem.Tok} {t21_8 : PySem.Tok} {t21_9 : PySem.Tok} {t21_10 : PySem.Tok} {t21_11 : PySem.Tok} {t21_12 : PySem.Tok} {t21_13 : PySem.Tok} {t21_14 : PySem.Tok} {t21_15 : PySem.Tok} {t21_16 : PySem.Tok} {t21_17 : PySem.Tok} {q25_1 : Addr} {qd25_1 : Option Addr} {qn25_1 : Nat} {qs25_1 : Array (Option PySem.Value)} {q25_2 : Addr} {qd25_2 : Option Addr} {qn25_2 : Nat} {qs25_2 : Array (Option PySem.Value)} {t25_3 : PySem.Tok} {t25_4 : PySem.Tok} {t25_5 : PySem.Tok} {t25_6 : PySem.Tok} {t25_7 : PySem.Tok} {t25_8 : PySem.Tok} {t25_9 : PySem.Tok} {t25_10 : PySem.Tok} {t25_11 : PySem.Tok} {t25_12 : PySem.Tok} {t25_13 : PySem.Tok} {t25_14 : PySem.Tok} {t25_15 : PySem.Tok} {t25_16 : PySem.Tok} {t25_17 : PySem.Tok} {t25_18 : PySem.Tok} {q25_19 : Addr} {qd25_19 : Option Addr} {qn25_19 : Nat} {qs25_19 : Array (Option PySem.Value)} {t25_20 : PySem.Tok} {t25_21 : PySem.Tok} {t25_22 : PySem.Tok} {t25_23 : PySem.Tok} {t25_24 : PySem.Tok} {t25_25 : PySem.Tok} {t25_26 : PySem.Tok} {t25_27 : PySem.Tok} {t25_28 : PySem.Tok} {t25_29 : PySem.Tok} {t25_30 : PySem.Tok} {t25_31 : PySem.Tok} {t25_32 : PySem.Tok} {t25_33 : PySem.Tok} {t25_34 : PySem.Tok} {t25_35 : PySem.Tok} {q25_36 : Addr} {qd25_36 : Option Addr} {qn25_36 : Nat} {qs25_36 : Array (Option PySem.Value)} {t25_37 : PySem.Tok} {t25_38 : PySem.Tok} {t25_39 : PySem.Tok} {t25_40 : PySem.Tok} {t25_41 : PySem.Tok} {t25_42 : PySem.Tok} {t25_43 : PySem.Tok} {t25_44 : PySem.Tok} {t25_45 : PySem.Tok} {t25_46 : PySem.Tok} {t25_47 : PySem.Tok} {t25_48 : PySem.Tok} {t25_49 : PySem.Tok} {t25_50 : PySem.Tok} {t25_51 : PySem.Tok} {t25_52 : PySem.Tok} {q25_53 : Addr} {qd25_53 : Option Addr} {qn25_53 : Nat} {qs25_53 : Array (Option PySem.Value)} {t25_54 : PySem.Tok} {t25_55 : PySem.Tok} {t25_56 : PySem.Tok} {t25_57 : PySem.Tok} {t25_58 : PySem.Tok} {t25_59 : PySem.Tok} {t25_60 : PySem.Tok} {t25_61 : PySem.Tok} {t25_62 : PySem.Tok} {t25_63 : PySem.Tok} {t25_64 : PySem.Tok} {t25_65 : PySem.Tok} {t25_66 : PySem.Tok} {t25_67 : PySem.Tok} {t25_68 : PySem.Tok} {t25_69 : PySem.Tok} {q25_70 : Addr} {qd25_70 : Option Addr} {qn25_70 : Nat} {qs25_70 : Array (Option PySem.Value)} {t25_71 : PySem.Tok} {t25_72 : PySem.Tok} {t25_73 : PySem.Tok} {t25_74 : PySem.Tok} {t25_75 : PySem.Tok} {t25_76 : PySem.Tok} {t25_77 : PySem.Tok} {t25_78 : PySem.Tok} {t25_79 : PySem.Tok} {t25_80 : PySem.Tok} {t25_81 : PySem.Tok} {t25_82 : PySem.Tok} {t25_83 : PySem.Tok} {t25_84 : PySem.Tok} {t25_85 : PySem.Tok} {t25_86 : PySem.Tok} {q25_87 : Addr} {qd25_87 : Option Addr} {qn25_87 : Nat} {qs25_87 : Array (Option PySem.Value)} {t25_88 : PySem.Tok} {t25_89 : PySem.Tok} {t25_90 : PySem.Tok} {t25_91 : PySem.Tok} {t25_92 : PySem.Tok} {t25_93 : PySem.Tok} {t25_94 : PySem.Tok} {t25_95 : PySem.Tok} {t25_96 : PySem.Tok} {t25_97 : PySem.Tok} {t25_98 : PySem.Tok} {t25_99 : PySem.Tok} {t25_100 : PySem.Tok} {t25_101 : PySem.Tok} {t25_102 : PySem.Tok} {t25_103 : PySem.Tok} {q25_104 : Addr} {qd25_104 : Option Addr} {qn25_104 : Nat} {qs25_104 : Array (Option PySem.Value)} {t25_105 : PySem.Tok} {t25_106 : PySem.Tok} {t25_107 : PySem.Tok} {t25_108 : PySem.Tok} {t25_109 : PySem.Tok} {t25_110 : PySem.Tok} {t25_111 : PySem.Tok} {t25_112 : PySem.Tok} {t25_113 : PySem.Tok} {t25_114 : PySem.Tok} {t25_115 : PySem.Tok} {t25_116 : PySem.Tok} {t25_117 : PySem.Tok} {t25_118 : PySem.Tok} {t25_119 : PySem.Tok} {t25_120 : PySem.Tok} {q25_121 : Addr} {qd25_121 : Option Addr} {qn25_121 : Nat} {qs25_121 : Array (Option PySem.Value)} {t25_122 : PySem.Tok} {t25_123 : PySem.Tok} {t25_124 : PySem.Tok} {t25_125 : PySem.Tok} {t25_126 : PySem.Tok} {t25_127 : PySem.Tok} {t25_128 : PySem.Tok} {t25_129 : PySem.Tok} {t25_130 : PySem.Tok} {t25_131 : PySem.Tok} {t25_132 : PySem.Tok} {t25_133 : PySem.Tok} {t25_134 : PySem.Tok} {t25_135 : PySem.Tok} {t25_136 : PySem.Tok} {t25_137 : PySem.Tok} {q25_138 : Addr} {qd25_138 : Option Addr} {qn25_138 : Nat} {qs25_138 : Array (Option PySem.Value)} {t25_139 : PySem.Tok} {t25_140 : PySem.Tok} {t25_141 : PySem.Tok} {t25_142 : PySem.Tok} {t25_143 : PySem.Tok} {t25_144 : PySem.Tok} {t25_145 : PySem.Tok} {t25_146 : PySem.Tok} {t25_147 : PySem.Tok} {t25_148 : PySem.Tok} {t25_149 : PySem.Tok} {t25_150 : PySem.Tok} {t25_151 : PySem.Tok} {t25_152 : PySem.Tok} {t25_153 : PySem.Tok} {t25_154 : PySem.Tok} {q25_155 : Addr} {qd25_155 : Option Addr} {qn25_155 : Nat} {qs25_155 : Array (Option PySem.Value)} {t25_156 : PySem.Tok} {t25_157 : PySem.Tok} {t25_158 : PySem.Tok} {t25_159 : PySem.Tok} {t25_160 : PySem.Tok} {t25_161 : PySem.Tok} {t25_162 : PySem.Tok} {t25_163 : PySem.Tok} {t25_164 : PySem.Tok} {t25_165 : PySem.Tok} {t25_166 : PySem.Tok} {t25_167 : PySem.Tok} {t25_168 : PySem.Tok} {t25_169 : PySem.Tok} {t25_170 : PySem.Tok} {t25_171 : PySem.Tok} {q26_1 : Addr} {qd26_1 : Option Addr} {qn26_1 : Nat} {qs26_1 : Array (Option PySem.Value)} {q26_2 : Addr} {qd26_2 : Option Addr} {qn26_2 : Nat} {qs26_2 : Array (Option PySem.Value)} {t26_3 : PySem.Tok} {t26_4 : PySem.Tok} {t26_5 : PySem.Tok} {t26_6 : PySem.Tok} {q26_7 : Addr} {qd26_7 : Option Addr} {qn26_7 : Nat} {qs26_7 : Array (Option PySem.Value)} {t26_8 : PySem.Tok} {t26_9 : PySem.Tok} {t26_10 : PySem.Tok} {t26_11 : PySem.Tok} {q26_12 : Addr} {qd26_12 : Option Addr} {qn26_12 : Nat} {qs26_12 : Array (Option PySem.Value)} {t26_13 : PySem.Tok} {t26_14 : PySem.Tok} {t26_15 : PySem.Tok} {t26_16 : PySem.Tok} {q26_17 : Addr} {qd26_17 : Option Addr} {qn26_17 : Nat} {qs26_17 : Array (Option PySem.Value)} {t26_18 : PySem.Tok} {t26_19 : PySem.Tok} {t26_20 : PySem.Tok} {t26_21 : PySem.Tok} {q26_22 : Addr} {qd26_22 : Option Addr} {qn26_22 : Nat} {qs26_22 : Array (Option PySem.Value)} {t26_23 : PySem.Tok} {t26_24 : PySem.Tok} {t26_25 : PySem.Tok} {t26_26 : PySem.Tok} {q26_27 : Addr} {qd26_27 : Option Addr} {qn26_27 : Nat} {qs26_27 : Array (Option PySem.Value)} {t26_28 : PySem.Tok} {t26_29 : PySem.Tok} {t26_30 : PySem.Tok} {t26_31 : PySem.Tok} {q26_32 : Addr} {qd26_32 : Option Addr} {qn26_32 : Nat} {qs26_32 : Array (Option PySem.Value)} {t26_33 : PySem.Tok} {t26_34 : PySem.Tok} {t26_35 : PySem.Tok} {t26_36 : PySem.Tok} {q26_37 : Addr} {qd26_37 : Option Addr} {qn26_37 : Nat} {qs26_37 : Array (Option PySem.Value)} {t26_38 : PySem.Tok} {t26_39 : PySem.Tok} {t26_40 : PySem.Tok} {t26_41 : PySem.Tok}
    (a1 : PySem.W.nsIn K PySem.mainGlobals "square_root_word" = some (some (.ref f1)))
    (l1 : K.lookup f1 = some ⟨oc1, od1, .func (PySem.W.fnOf "square_root_word" "square_root_word" (defArgs zs_square_root_word) (defBody zs_square_root_word) (defScope zs_square_root_word) .none kV1 dc1 pm1 an1 cd1 ct1), sl1⟩)
    (c1 : PySem.W.codeIn K cd1 "square_root_word" = true)
    (e1 : PySem.W.keepIn K (.ref f1) = true)
    (a2 : PySem.W.nsIn K PySem.mainGlobals "turn" = some (some (.ref f2)))
    (l2 : K.lookup f2 = some ⟨oc2, od2, .func (PySem.W.fnOf "turn" "turn" (defArgs zs_turn) (defBody zs_turn) (defScope zs_turn) .none kV2 dc2 pm2 an2 cd2 ct2), sl2⟩)
    (c2 : PySem.W.codeIn K cd2 "turn" = true)
    (e2 : PySem.W.keepIn K (.ref f2) = true)
    (a3 : PySem.W.nsIn K PySem.mainGlobals "quarter" = some (some (.ref f3)))
    (l3 : K.lookup f3 = some ⟨oc3, od3, .func (PySem.W.fnOf "quarter" "quarter" (defArgs zs_quarter) (defBody zs_quarter) (defScope zs_quarter) .none kV3 dc3 pm3 an3 cd3 ct3), sl3⟩)
    (c3 : PySem.W.codeIn K cd3 "quarter" = true)
    (e3 : PySem.W.keepIn K (.ref f3) = true)
    (a4 : PySem.W.nsIn K PySem.mainGlobals "initial_words" = some (some (.ref f4)))
    (l4 : K.lookup f4 = some ⟨oc4, od4, .func (PySem.W.fnOf "initial_words" "initial_words" (defArgs zs_initial_words) (defBody zs_initial_words) (defScope zs_initial_words) .none kV4 dc4 pm4 an4 cd4 ct4), sl4⟩)
    (c4 : PySem.W.codeIn K cd4 "initial_words" = true)
    (e4 : PySem.W.keepIn K (.ref f4) = true)
    (a5 : PySem.W.nsIn K PySem.mainGlobals "compress" = some (some (.ref f5)))
    (l5 : K.lookup f5 = some ⟨oc5, od5, .func (PySem.W.fnOf "compress" "compress" (defArgs zs_compress) (defBody zs_compress) (defScope zs_compress) .none kV5 dc5 pm5 an5 cd5 ct5), sl5⟩)
    (c5 : PySem.W.codeIn K cd5 "compress" = true)
    (e5 : PySem.W.keepIn K (.ref f5) = true)
    (a6 : PySem.W.nsIn K PySem.mainGlobals "_law_draws" = some (some (.ref f6)))
    (l6 : K.lookup f6 = some ⟨oc6, od6, .func (PySem.W.fnOf "_law_draws" "_law_draws" (defArgs zs__law_draws) (defBody zs__law_draws) (defScope zs__law_draws) .none kV6 dc6 pm6 an6 cd6 ct6), sl6⟩)
    (c6 : PySem.W.codeIn K cd6 "_law_draws" = true)
    (e6 : PySem.W.keepIn K (.ref f6) = true)
    (a7 : PySem.W.nsIn K PySem.mainGlobals "_law_take" = some (some (.ref f7)))
    (l7 : K.lookup f7 = some ⟨oc7, od7, .func (PySem.W.fnOf "_law_take" "_law_take" (defArgs zs__law_take) (defBody zs__law_take) (defScope zs__law_take) .none kV7 dc7 pm7 an7 cd7 ct7), sl7⟩)
    (c7 : PySem.W.codeIn K cd7 "_law_take" = true)
    (e7 : PySem.W.keepIn K (.ref f7) = true)
    (a8 : PySem.W.nsIn K PySem.mainGlobals "_law_octets" = some (some (.ref f8)))
    (l8 : K.lookup f8 = some ⟨oc8, od8, .func (PySem.W.fnOf "_law_octets" "_law_octets" (defArgs zs__law_octets) (defBody zs__law_octets) (defScope zs__law_octets) .none kV8 dc8 pm8 an8 cd8 ct8), sl8⟩)
    (c8 : PySem.W.codeIn K cd8 "_law_octets" = true)
    (e8 : PySem.W.keepIn K (.ref f8) = true)
    (a9 : PySem.W.nsIn K PySem.mainGlobals "_law_same" = some (some (.ref f9)))
    (l9 : K.lookup f9 = some ⟨oc9, od9, .func (PySem.W.fnOf "_law_same" "_law_same" (defArgs zs__law_same) (defBody zs__law_same) (defScope zs__law_same) .none kV9 dc9 pm9 an9 cd9 ct9), sl9⟩)
    (c9 : PySem.W.codeIn K cd9 "_law_same" = true)
    (e9 : PySem.W.keepIn K (.ref f9) = true)
    (a10 : PySem.W.nsIn K PySem.mainGlobals "_law_root" = some (some (.ref f10)))
    (l10 : K.lookup f10 = some ⟨oc10, od10, .func (PySem.W.fnOf "_law_root" "_law_root" (defArgs zs__law_root) (defBody zs__law_root) (defScope zs__law_root) .none kV10 dc10 pm10 an10 cd10 ct10), sl10⟩)
    (c10 : PySem.W.codeIn K cd10 "_law_root" = true)
    (e10 : PySem.W.keepIn K (.ref f10) = true)
    (a11 : PySem.W.nsIn K PySem.mainGlobals "_law_initial" = some (some (.ref f11)))
    (l11 : K.lookup f11 = some ⟨oc11, od11, .func (PySem.W.fnOf "_law_initial" "_law_initial" (defArgs zs__law_initial) (defBody zs__law_initial) (defScope zs__law_initial) .none kV11 dc11 pm11 an11 cd11 ct11), sl11⟩)
    (c11 : PySem.W.codeIn K cd11 "_law_initial" = true)
    (e11 : PySem.W.keepIn K (.ref f11) = true)
    (a12 : PySem.W.nsIn K PySem.mainGlobals "_law_orders" = some (some (.ref f12)))
    (l12 : K.lookup f12 = some ⟨oc12, od12, .func (PySem.W.fnOf "_law_orders" "_law_orders" (defArgs zs__law_orders) (defBody zs__law_orders) (defScope zs__law_orders) .none kV12 dc12 pm12 an12 cd12 ct12), sl12⟩)
    (c12 : PySem.W.codeIn K cd12 "_law_orders" = true)
    (e12 : PySem.W.keepIn K (.ref f12) = true)
    (a13 : PySem.W.nsIn K PySem.mainGlobals "_law_turned" = some (some (.ref f13)))
    (l13 : K.lookup f13 = some ⟨oc13, od13, .func (PySem.W.fnOf "_law_turned" "_law_turned" (defArgs zs__law_turned) (defBody zs__law_turned) (defScope zs__law_turned) .none kV13 dc13 pm13 an13 cd13 ct13), sl13⟩)
    (c13 : PySem.W.codeIn K cd13 "_law_turned" = true)
    (e13 : PySem.W.keepIn K (.ref f13) = true)
    (a14 : PySem.W.nsIn K PySem.mainGlobals "_law_quarter" = some (some (.ref f14)))
    (l14 : K.lookup f14 = some ⟨oc14, od14, .func (PySem.W.fnOf "_law_quarter" "_law_quarter" (defArgs zs__law_quarter) (defBody zs__law_quarter) (defScope zs__law_quarter) .none kV14 dc14 pm14 an14 cd14 ct14), sl14⟩)
    (c14 : PySem.W.codeIn K cd14 "_law_quarter" = true)
    (e14 : PySem.W.keepIn K (.ref f14) = true)
    (a15 : PySem.W.nsIn K PySem.mainGlobals "_law_compressed" = some (some (.ref f15)))
    (l15 : K.lookup f15 = some ⟨oc15, od15, .func (PySem.W.fnOf "_law_compressed" "_law_compressed" (defArgs zs__law_compressed) (defBody zs__law_compressed) (defScope zs__law_compressed) .none kV15 dc15 pm15 an15 cd15 ct15), sl15⟩)
    (c15 : PySem.W.codeIn K cd15 "_law_compressed" = true)
    (e15 : PySem.W.keepIn K (.ref f15) = true)
    (a16 : PySem.W.nsIn K PySem.mainGlobals "_law_word" = some (some (.ref f16)))
    (l16 : K.lookup f16 = some ⟨oc16, od16, .func (PySem.W.fnOf "_law_word" "_law_word" (defArgs zs__law_word) (defBody zs__law_word) (defScope zs__law_word) .none kV16 dc16 pm16 an16 cd16 ct16), sl16⟩)
    (c16 : PySem.W.codeIn K cd16 "_law_word" = true)
    (e16 : PySem.W.keepIn K (.ref f16) = true)
    (a17 : PySem.W.nsIn K PySem.mainGlobals "law" = some (some (.ref f17)))
    (l17 : K.lookup f17 = some ⟨oc17, od17, .func (PySem.W.fnOf "law" "law" (defArgs zs_law) (defBody zs_law) (defScope zs_law) .none kV17 dc17 pm17 an17 cd17 ct17), sl17⟩)
    (c17 : PySem.W.codeIn K cd17 "law" = true)
    (e17 : PySem.W.keepIn K (.ref f17) = true)
    (b18 : PySem.W.nsIn K PySem.mainGlobals "isqrt" = some (some (.builtin "math.isqrt")))
    (b19 : PySem.W.nsIn K PySem.mainGlobals "MASK_roots" = some (some (.int 18446744073709551615 t19_1)))
    (b20 : PySem.W.nsIn K PySem.mainGlobals "MASK_blake" = some (some (.int 18446744073709551615 t20_1)))
    (b21 : PySem.W.nsIn K PySem.mainGlobals "PRIMES" = some (some (.ref q21_1)))
    (h21_1 : K.lookup q21_1 = some ⟨.type "tuple", qd21_1, .seq #[(.int 2 t21_2), (.int 3 t21_3), (.int 5 t21_4), (.int 7 t21_5), (.int 11 t21_6), (.int 13 t21_7), (.int 17 t21_8), (.int 19 t21_9), (.int 23 t21_10), (.int 29 t21_11), (.int 31 t21_12), (.int 37 t21_13), (.int 41 t21_14), (.int 43 t21_15), (.int 47 t21_16), (.int 53 t21_17)] qn21_1, qs21_1⟩)
    (b22 : PySem.W.nsIn K PySem.mainGlobals "tuple" = some none)
    (b23 : PySem.W.nsIn K PySem.mainGlobals "list" = some none)
    (b24 : PySem.W.nsIn K PySem.mainGlobals "range" = some none)
    (b25 : PySem.W.nsIn K PySem.mainGlobals "ORDERS" = some (some (.ref q25_1)))
    (h25_1 : K.lookup q25_1 = some ⟨.type "tuple", qd25_1, .seq #[(.ref q25_2), (.ref q25_19), (.ref q25_36), (.ref q25_53), (.ref q25_70), (.ref q25_87), (.ref q25_104), (.ref q25_121), (.ref q25_138), (.ref q25_155)] qn25_1, qs25_1⟩)
    (h25_2 : K.lookup q25_2 = some ⟨.type "tuple", qd25_2, .seq #[(.int 0 t25_3), (.int 1 t25_4), (.int 2 t25_5), (.int 3 t25_6), (.int 4 t25_7), (.int 5 t25_8), (.int 6 t25_9), (.int 7 t25_10), (.int 8 t25_11), (.int 9 t25_12), (.int 10 t25_13), (.int 11 t25_14), (.int 12 t25_15), (.int 13 t25_16), (.int 14 t25_17), (.int 15 t25_18)] qn25_2, qs25_2⟩)
    (h25_19 : K.lookup q25_19 = some ⟨.type "tuple", qd25_19, .seq #[(.int 14 t25_20), (.int 10 t25_21), (.int 4 t25_22), (.int 8 t25_23), (.int 9 t25_24), (.int 15 t25_25), (.int 13 t25_26), (.int 6 t25_27), (.int 1 t25_28), (.int 12 t25_29), (.int 0 t25_30), (.int 2 t25_31), (.int 11 t25_32), (.int 7 t25_33), (.int 5 t25_34), (.int 3 t25_35)] qn25_19, qs25_19⟩)
    (h25_36 : K.lookup q25_36 = some ⟨.type "tuple", qd25_36, .seq #[(.int 11 t25_37), (.int 8 t25_38), (.int 12 t25_39), (.int 0 t25_40), (.int 5 t25_41), (.int 2 t25_42), (.int 15 t25_43), (.int 13 t25_44), (.int 10 t25_45), (.int 14 t25_46), (.int 3 t25_47), (.int 6 t25_48), (.int 7 t25_49), (.int 1 t25_50), (.int 9 t25_51), (.int 4 t25_52)] qn25_36, qs25_36⟩)
    (h25_53 : K.lookup q25_53 = some ⟨.type "tuple", qd25_53, .seq #[(.int 7 t25_54), (.int 9 t25_55), (.int 3 t25_56), (.int 1 t25_57), (.int 13 t25_58), (.int 12 t25_59), (.int 11 t25_60), (.int 14 t25_61), (.int 2 t25_62), (.int 6 t25_63), (.int 5 t25_64), (.int 10 t25_65), (.int 4 t25_66), (.int 0 t25_67), (.int 15 t25_68), (.int 8 t25_69)] qn25_53, qs25_53⟩)
    (h25_70 : K.lookup q25_70 = some ⟨.type "tuple", qd25_70, .seq #[(.int 9 t25_71), (.int 0 t25_72), (.int 5 t25_73), (.int 7 t25_74), (.int 2 t25_75), (.int 4 t25_76), (.int 10 t25_77), (.int 15 t25_78), (.int 14 t25_79), (.int 1 t25_80), (.int 11 t25_81), (.int 12 t25_82), (.int 6 t25_83), (.int 8 t25_84), (.int 3 t25_85), (.int 13 t25_86)] qn25_70, qs25_70⟩)
    (h25_87 : K.lookup q25_87 = some ⟨.type "tuple", qd25_87, .seq #[(.int 2 t25_88), (.int 12 t25_89), (.int 6 t25_90), (.int 10 t25_91), (.int 0 t25_92), (.int 11 t25_93), (.int 8 t25_94), (.int 3 t25_95), (.int 4 t25_96), (.int 13 t25_97), (.int 7 t25_98), (.int 5 t25_99), (.int 15 t25_100), (.int 14 t25_101), (.int 1 t25_102), (.int 9 t25_103)] qn25_87, qs25_87⟩)
    (h25_104 : K.lookup q25_104 = some ⟨.type "tuple", qd25_104, .seq #[(.int 12 t25_105), (.int 5 t25_106), (.int 1 t25_107), (.int 15 t25_108), (.int 14 t25_109), (.int 13 t25_110), (.int 4 t25_111), (.int 10 t25_112), (.int 0 t25_113), (.int 7 t25_114), (.int 6 t25_115), (.int 3 t25_116), (.int 9 t25_117), (.int 2 t25_118), (.int 8 t25_119), (.int 11 t25_120)] qn25_104, qs25_104⟩)
    (h25_121 : K.lookup q25_121 = some ⟨.type "tuple", qd25_121, .seq #[(.int 13 t25_122), (.int 11 t25_123), (.int 7 t25_124), (.int 14 t25_125), (.int 12 t25_126), (.int 1 t25_127), (.int 3 t25_128), (.int 9 t25_129), (.int 5 t25_130), (.int 0 t25_131), (.int 15 t25_132), (.int 4 t25_133), (.int 8 t25_134), (.int 6 t25_135), (.int 2 t25_136), (.int 10 t25_137)] qn25_121, qs25_121⟩)
    (h25_138 : K.lookup q25_138 = some ⟨.type "tuple", qd25_138, .seq #[(.int 6 t25_139), (.int 15 t25_140), (.int 14 t25_141), (.int 9 t25_142), (.int 11 t25_143), (.int 3 t25_144), (.int 0 t25_145), (.int 8 t25_146), (.int 12 t25_147), (.int 2 t25_148), (.int 13 t25_149), (.int 7 t25_150), (.int 1 t25_151), (.int 4 t25_152), (.int 10 t25_153), (.int 5 t25_154)] qn25_138, qs25_138⟩)
    (h25_155 : K.lookup q25_155 = some ⟨.type "tuple", qd25_155, .seq #[(.int 10 t25_156), (.int 2 t25_157), (.int 8 t25_158), (.int 4 t25_159), (.int 7 t25_160), (.int 6 t25_161), (.int 1 t25_162), (.int 5 t25_163), (.int 15 t25_164), (.int 11 t25_165), (.int 9 t25_166), (.int 14 t25_167), (.int 3 t25_168), (.int 12 t25_169), (.int 13 t25_170), (.int 0 t25_171)] qn25_155, qs25_155⟩)
    (b26 : PySem.W.nsIn K PySem.mainGlobals "PLACES" = some (some (.ref q26_1)))
    (h26_1 : K.lookup q26_1 = some ⟨.type "tuple", qd26_1, .seq #[(.ref q26_2), (.ref q26_7), (.ref q26_12), (.ref q26_17), (.ref q26_22), (.ref q26_27), (.ref q26_32), (.ref q26_37)] qn26_1, qs26_1⟩)
    (h26_2 : K.lookup q26_2 = some ⟨.type "tuple", qd26_2, .seq #[(.int 0 t26_3), (.int 4 t26_4), (.int 8 t26_5), (.int 12 t26_6)] qn26_2, qs26_2⟩)
    (h26_7 : K.lookup q26_7 = some ⟨.type "tuple", qd26_7, .seq #[(.int 1 t26_8), (.int 5 t26_9), (.int 9 t26_10), (.int 13 t26_11)] qn26_7, qs26_7⟩)
    (h26_12 : K.lookup q26_12 = some ⟨.type "tuple", qd26_12, .seq #[(.int 2 t26_13), (.int 6 t26_14), (.int 10 t26_15), (.int 14 t26_16)] qn26_12, qs26_12⟩)
    (h26_17 : K.lookup q26_17 = some ⟨.type "tuple", qd26_17, .seq #[(.int 3 t26_18), (.int 7 t26_19), (.int 11 t26_20), (.int 15 t26_21)] qn26_17, qs26_17⟩)
    (h26_22 : K.lookup q26_22 = some ⟨.type "tuple", qd26_22, .seq #[(.int 0 t26_23), (.int 5 t26_24), (.int 10 t26_25), (.int 15 t26_26)] qn26_22, qs26_22⟩)
    (h26_27 : K.lookup q26_27 = some ⟨.type "tuple", qd26_27, .seq #[(.int 1 t26_28), (.int 6 t26_29), (.int 11 t26_30), (.int 12 t26_31)] qn26_27, qs26_27⟩)
    (h26_32 : K.lookup q26_32 = some ⟨.type "tuple", qd26_32, .seq #[(.int 2 t26_33), (.int 7 t26_34), (.int 8 t26_35), (.int 13 t26_36)] qn26_32, qs26_32⟩)
    (h26_37 : K.lookup q26_37 = some ⟨.type "tuple", qd26_37, .seq #[(.int 3 t26_38), (.int 4 t26_39), (.int 9 t26_40), (.int 14 t26_41)] qn26_37, qs26_37⟩)
    (b27 : PySem.W.nsIn K PySem.mainGlobals "enumerate" = some none)
    (b28 : PySem.W.nsIn K PySem.mainGlobals "abs" = some none)
    (b29 : PySem.W.nsIn K PySem.mainGlobals "int" = some none)
    (b30 : PySem.W.nsIn K PySem.mainGlobals "len" = some none)
    (b31 : PySem.W.nsIn K PySem.mainGlobals "isinstance" = some none)
    (b32 : PySem.W.nsIn K PySem.mainGlobals "bool" = some none)
    (b33 : PySem.W.nsIn K PySem.mainGlobals "all" = some none) :
    ∃ fd : PySem.FuncData, (∀ (s : PySem.Shared) (v : PySem.Value), PySem.BindsTo s fd ⟨[v], []⟩ [("script", v)]) ∧ ∀ base : PySem.Heap, K.In base → base.Ns PySem.mainGlobals mg → L2.FnOk l.prog w K mg base (L2.CX l.prog w) 4 fa fd ["script"] (spL K f_law) := by
  have e := hfa.symm.trans (PySem.W.mg_of X G a17)
  cases e
  have t : Tx K mg := ⟨⟨⟨f1, _, (L2.fun_mk (st := zs_square_root_word) l1 c1 e1), PySem.W.mg_of X G a1, e1, ((L2.fun_mk (st := zs_square_root_word) l1 c1 e1).binds (ps := ["number"]) fun _ _ _ _ _ _ us hl => match us, hl with | [_], _ => rfl)⟩⟩,
    ⟨⟨f2, _, (L2.fun_mk (st := zs_turn) l2 c2 e2), PySem.W.mg_of X G a2, e2, ((L2.fun_mk (st := zs_turn) l2 c2 e2).binds (ps := ["word", "count"]) fun _ _ _ _ _ _ us hl => match us, hl with | [_, _], _ => rfl)⟩⟩,
    ⟨⟨f3, _, (L2.fun_mk (st := zs_quarter) l3 c3 e3), PySem.W.mg_of X G a3, e3, ((L2.fun_mk (st := zs_quarter) l3 c3 e3).binds (ps := ["v", "places", "x", "y"]) fun _ _ _ _ _ _ us hl => match us, hl with | [_, _, _, _], _ => rfl)⟩⟩,
    ⟨⟨f4, _, (L2.fun_mk (st := zs_initial_words) l4 c4 e4), PySem.W.mg_of X G a4, e4, ((L2.fun_mk (st := zs_initial_words) l4 c4 e4).binds (ps := []) fun _ _ _ _ _ _ us hl => match us, hl with | [], _ => rfl)⟩⟩,
    ⟨⟨f5, _, (L2.fun_mk (st := zs_compress) l5 c5 e5), PySem.W.mg_of X G a5, e5, ((L2.fun_mk (st := zs_compress) l5 c5 e5).binds (ps := ["state", "words", "count", "last"]) fun _ _ _ _ _ _ us hl => match us, hl with | [_, _, _, _], _ => rfl)⟩⟩,
    ⟨⟨f6, _, (L2.fun_mk (st := zs__law_draws) l6 c6 e6), PySem.W.mg_of X G a6, e6, ((L2.fun_mk (st := zs__law_draws) l6 c6 e6).binds (ps := ["script"]) fun _ _ _ _ _ _ us hl => match us, hl with | [_], _ => rfl)⟩⟩,
    ⟨⟨f7, _, (L2.fun_mk (st := zs__law_take) l7 c7 e7), PySem.W.mg_of X G a7, e7, ((L2.fun_mk (st := zs__law_take) l7 c7 e7).binds (ps := ["m", "many"]) fun _ _ _ _ _ _ us hl => match us, hl with | [_, _], _ => rfl)⟩⟩,
    ⟨⟨f8, _, (L2.fun_mk (st := zs__law_octets) l8 c8 e8), PySem.W.mg_of X G a8, e8, ((L2.fun_mk (st := zs__law_octets) l8 c8 e8).binds (ps := ["m", "size"]) fun _ _ _ _ _ _ us hl => match us, hl with | [_, _], _ => rfl)⟩⟩,
    ⟨⟨f9, _, (L2.fun_mk (st := zs__law_same) l9 c9 e9), PySem.W.mg_of X G a9, e9, ((L2.fun_mk (st := zs__law_same) l9 c9 e9).binds (ps := ["actual", "due"]) fun _ _ _ _ _ _ us hl => match us, hl with | [_, _], _ => rfl)⟩⟩,
    ⟨⟨f10, _, (L2.fun_mk (st := zs__law_root) l10 c10 e10), PySem.W.mg_of X G a10, e10, ((L2.fun_mk (st := zs__law_root) l10 c10 e10).binds (ps := ["number", "power"]) fun _ _ _ _ _ _ us hl => match us, hl with | [_, _], _ => rfl)⟩⟩,
    ⟨⟨f11, _, (L2.fun_mk (st := zs__law_initial) l11 c11 e11), PySem.W.mg_of X G a11, e11, ((L2.fun_mk (st := zs__law_initial) l11 c11 e11).binds (ps := []) fun _ _ _ _ _ _ us hl => match us, hl with | [], _ => rfl)⟩⟩,
    ⟨⟨f12, _, (L2.fun_mk (st := zs__law_orders) l12 c12 e12), PySem.W.mg_of X G a12, e12, ((L2.fun_mk (st := zs__law_orders) l12 c12 e12).binds (ps := []) fun _ _ _ _ _ _ us hl => match us, hl with | [], _ => rfl)⟩⟩,
    ⟨⟨f13, _, (L2.fun_mk (st := zs__law_turned) l13 c13 e13), PySem.W.mg_of X G a13, e13, ((L2.fun_mk (st := zs__law_turned) l13 c13 e13).binds (ps := ["word", "count"]) fun _ _ _ _ _ _ us hl => match us, hl with | [_, _], _ => rfl)⟩⟩,
    ⟨⟨f14, _, (L2.fun_mk (st := zs__law_quarter) l14 c14 e14), PySem.W.mg_of X G a14, e14, ((L2.fun_mk (st := zs__law_quarter) l14 c14 e14).binds (ps := ["v", "places", "x", "y"]) fun _ _ _ _ _ _ us hl => match us, hl with | [_, _, _, _], _ => rfl)⟩⟩,
    ⟨⟨f15, _, (L2.fun_mk (st := zs__law_compressed) l15 c15 e15), PySem.W.mg_of X G a15, e15, ((L2.fun_mk (st := zs__law_compressed) l15 c15 e15).binds (ps := ["state", "words", "count", "last"]) fun _ _ _ _ _ _ us hl => match us, hl with | [_, _, _, _], _ => rfl)⟩⟩,
    ⟨⟨f16, _, (L2.fun_mk (st := zs__law_word) l16 c16 e16), PySem.W.mg_of X G a16, e16, ((L2.fun_mk (st := zs__law_word) l16 c16 e16).binds (ps := ["m"]) fun _ _ _ _ _ _ us hl => match us, hl with | [_], _ => rfl)⟩⟩,
    PySem.W.mg_of X G b18,
    cs_mk (PySem.W.mg_of X G b19) (kv_int),
    cs_mk (PySem.W.mg_of X G b20) (kv_int),
    cs_mk (PySem.W.mg_of X G b21) (kv_tup h21_1 (kvs_cons (kv_int) (kvs_cons (kv_int) (kvs_cons (kv_int) (kvs_cons (kv_int) (kvs_cons (kv_int) (kvs_cons (kv_int) (kvs_cons (kv_int) (kvs_cons (kv_int) (kvs_cons (kv_int) (kvs_cons (kv_int) (kvs_cons (kv_int) (kvs_cons (kv_int) (kvs_cons (kv_int) (kvs_cons (kv_int) (kvs_cons (kv_int) (kvs_cons (kv_int) kvs_nil))))))))))))))))),
    PySem.W.mg_none_of X G b22,
    PySem.W.mg_none_of X G b23,
    PySem.W.mg_none_of X G b24,
    cs_mk (PySem.W.mg_of X G b25) (kv_tup h25_1 (kvs_cons (kv_tup h25_2 (kvs_cons (kv_int) (kvs_cons (kv_int) (kvs_cons (kv_int) (kvs_cons (kv_int) (kvs_cons (kv_int) (kvs_cons (kv_int) (kvs_cons (kv_int) (kvs_cons (kv_int) (kvs_cons (kv_int) (kvs_cons (kv_int) (kvs_cons (kv_int) (kvs_cons (kv_int) (kvs_cons (kv_int) (kvs_cons (kv_int) (kvs_cons (kv_int) (kvs_cons (kv_int) kvs_nil))))))))))))))))) (kvs_cons (kv_tup h25_19 (kvs_cons (kv_int) (kvs_cons (kv_int) (kvs_cons (kv_int) (kvs_cons (kv_int) (kvs_cons (kv_int) (kvs_cons (kv_int) (kvs_cons (kv_int) (kvs_cons (kv_int) (kvs_cons (kv_int) (kvs_cons (kv_int) (kvs_cons (kv_int) (kvs_cons (kv_int) (kvs_cons (kv_int) (kvs_cons (kv_int) (kvs_cons (kv_int) (kvs_cons (kv_int) kvs_nil))))))))))))))))) (kvs_cons (kv_tup h25_36 (kvs_cons (kv_int) (kvs_cons (kv_int) (kvs_cons (kv_int) (kvs_cons (kv_int) (kvs_cons (kv_int) (kvs_cons (kv_int) (kvs_cons (kv_int) (kvs_cons (kv_int) (kvs_cons (kv_int) (kvs_cons (kv_int) (kvs_cons (kv_int) (kvs_cons (kv_int) (kvs_cons (kv_int) (kvs_cons (kv_int) (kvs_cons (kv_int) (kvs_cons (kv_int) kvs_nil))))))))))))))))) (kvs_cons (kv_tup h25_53 (kvs_cons (kv_int) (kvs_cons (kv_int) (kvs_cons (kv_int) (kvs_cons (kv_int) (kvs_cons (kv_int) (kvs_cons (kv_int) (kvs_cons (kv_int) (kvs_cons (kv_int) (kvs_cons (kv_int) (kvs_cons (kv_int) (kvs_cons (kv_int) (kvs_cons (kv_int) (kvs_cons (kv_int) (kvs_cons (kv_int) (kvs_cons (kv_int) (kvs_cons (kv_int) kvs_nil))))))))))))))))) (kvs_cons (kv_tup h25_70 (kvs_cons (kv_int) (kvs_cons (kv_int) (kvs_cons (kv_int) (kvs_cons (kv_int) (kvs_cons (kv_int) (kvs_cons (kv_int) (kvs_cons (kv_int) (kvs_cons (kv_int) (kvs_cons (kv_int) (kvs_cons (kv_int) (kvs_cons (kv_int) (kvs_cons (kv_int) (kvs_cons (kv_int) (kvs_cons (kv_int) (kvs_cons (kv_int) (kvs_cons (kv_int) kvs_nil))))))))))))))))) (kvs_cons (kv_tup h25_87 (kvs_cons (kv_int) (kvs_cons (kv_int) (kvs_cons (kv_int) (kvs_cons (kv_int) (kvs_cons (kv_int) (kvs_cons (kv_int) (kvs_cons (kv_int) (kvs_cons (kv_int) (kvs_cons (kv_int) (kvs_cons (kv_int) (kvs_cons (kv_int) (kvs_cons (kv_int) (kvs_cons (kv_int) (kvs_cons (kv_int) (kvs_cons (kv_int) (kvs_cons (kv_int) kvs_nil))))))))))))))))) (kvs_cons (kv_tup h25_104 (kvs_cons (kv_int) (kvs_cons (kv_int) (kvs_cons (kv_int) (kvs_cons (kv_int) (kvs_cons (kv_int) (kvs_cons (kv_int) (kvs_cons (kv_int) (kvs_cons (kv_int) (kvs_cons (kv_int) (kvs_cons (kv_int) (kvs_cons (kv_int) (kvs_cons (kv_int) (kvs_cons (kv_int) (kvs_cons (kv_int) (kvs_cons (kv_int) (kvs_cons (kv_int) kvs_nil))))))))))))))))) (kvs_cons (kv_tup h25_121 (kvs_cons (kv_int) (kvs_cons (kv_int) (kvs_cons (kv_int) (kvs_cons (kv_int) (kvs_cons (kv_int) (kvs_cons (kv_int) (kvs_cons (kv_int) (kvs_cons (kv_int) (kvs_cons (kv_int) (kvs_cons (kv_int) (kvs_cons (kv_int) (kvs_cons (kv_int) (kvs_cons (kv_int) (kvs_cons (kv_int) (kvs_cons (kv_int) (kvs_cons (kv_int) kvs_nil))))))))))))))))) (kvs_cons (kv_tup h25_138 (kvs_cons (kv_int) (kvs_cons (kv_int) (kvs_cons (kv_int) (kvs_cons (kv_int) (kvs_cons (kv_int) (kvs_cons (kv_int) (kvs_cons (kv_int) (kvs_cons (kv_int) (kvs_cons (kv_int) (kvs_cons (kv_int) (kvs_cons (kv_int) (kvs_cons (kv_int) (kvs_cons (kv_int) (kvs_cons (kv_int) (kvs_cons (kv_int) (kvs_cons (kv_int) kvs_nil))))))))))))))))) (kvs_cons (kv_tup h25_155 (kvs_cons (kv_int) (kvs_cons (kv_int) (kvs_cons (kv_int) (kvs_cons (kv_int) (kvs_cons (kv_int) (kvs_cons (kv_int) (kvs_cons (kv_int) (kvs_cons (kv_int) (kvs_cons (kv_int) (kvs_cons (kv_int) (kvs_cons (kv_int) (kvs_cons (kv_int) (kvs_cons (kv_int) (kvs_cons (kv_int) (kvs_cons (kv_int) (kvs_cons (kv_int) kvs_nil))))))))))))))))) kvs_nil))))))))))),
    cs_mk (PySem.W.mg_of X G b26) (kv_tup h26_1 (kvs_cons (kv_tup h26_2 (kvs_cons (kv_int) (kvs_cons (kv_int) (kvs_cons (kv_int) (kvs_cons (kv_int) kvs_nil))))) (kvs_cons (kv_tup h26_7 (kvs_cons (kv_int) (kvs_cons (kv_int) (kvs_cons (kv_int) (kvs_cons (kv_int) kvs_nil))))) (kvs_cons (kv_tup h26_12 (kvs_cons (kv_int) (kvs_cons (kv_int) (kvs_cons (kv_int) (kvs_cons (kv_int) kvs_nil))))) (kvs_cons (kv_tup h26_17 (kvs_cons (kv_int) (kvs_cons (kv_int) (kvs_cons (kv_int) (kvs_cons (kv_int) kvs_nil))))) (kvs_cons (kv_tup h26_22 (kvs_cons (kv_int) (kvs_cons (kv_int) (kvs_cons (kv_int) (kvs_cons (kv_int) kvs_nil))))) (kvs_cons (kv_tup h26_27 (kvs_cons (kv_int) (kvs_cons (kv_int) (kvs_cons (kv_int) (kvs_cons (kv_int) kvs_nil))))) (kvs_cons (kv_tup h26_32 (kvs_cons (kv_int) (kvs_cons (kv_int) (kvs_cons (kv_int) (kvs_cons (kv_int) kvs_nil))))) (kvs_cons (kv_tup h26_37 (kvs_cons (kv_int) (kvs_cons (kv_int) (kvs_cons (kv_int) (kvs_cons (kv_int) kvs_nil))))) kvs_nil))))))))),
    PySem.W.mg_none_of X G b27,
    PySem.W.mg_none_of X G b28,
    PySem.W.mg_none_of X G b29,
    PySem.W.mg_none_of X G b30,
    PySem.W.mg_none_of X G b31,
    PySem.W.mg_none_of X G b32,
    PySem.W.mg_none_of X G b33⟩
  exact ⟨_, fun s v => .of_eq rfl, fun base _ _ => (fn_body (L2.fun_mk (st := zs_law) l17 c17 e17) sc_law (by decide) (p_law t)).imp fun _ _ _ _ q => q mg⟩
end Lk15

namespace Lk15
open SM
local macro_rules
  | `(tactic| simp_all [$ls,*]) => `(tactic| simp (disch := (first | assumption | omega | (simp only [List.length_cons, List.length_append, List.length_set, List.length_nil, List.length_take, List.length_drop, List.length_reverse, List.length_replicate, List.length_range', nats_len] <;> omega) | fail)) only [q_Var, q_evv, q_evo, q_evw, q_e1, q_e1k, q_e2, q_e2k, q_e2j, q_aNil, q_aCons, q_ack, q_acj, q_argv, q_argo, q_argw, q_keeps, q_keepsN, q_kpc, q_keepv, q_keepo, q_Tup, q_etk, q_etj, q_Lst, q_elk, q_elj, q_Call, q_If, q_ift, q_iff, q_tB, q_tbk, q_tTru, q_ttk, q_tAnd, q_takt, q_takf, q_tOr, q_tokt, q_tokf, q_tNot, q_tnk, q_tYes, q_And, q_ndk, q_ndt, q_ndf, q_Or, q_ork, q_ort, q_orf, q_Not, q_ntk, q_ntj, q_trN, q_trB, q_trT, q_trR, q_trO, q_trW, q_Chain, q_chk, q_chj, q_chit, q_chif, q_sNil, q_sPass, q_sCons, q_sSet, q_ssv, q_sso, q_sOwn, q_sok, q_sHeap, q_shk, q_sFrz, q_sfj, q_sExpr, q_sxk, q_sRet, q_srv, q_sro, q_sRetOwn, q_roj, q_sRetN, q_sBreak, q_sCont, q_sIf, q_sift, q_siff, q_sApp, q_sapj, q_sapv, q_sapo, q_sExt, q_sexj, q_sexk, q_sexm, q_llo, q_llw, q_llr, q_sSetIx, q_sixv, q_sixo, q_sixj, q_sixl, q_sixm, q_sSetHp, q_hpv, q_hpo, q_hpj, q_hpl, q_hpm, q_hpn, q_sAugHp, q_agk, q_agj, q_agl, q_agm, q_agn, q_ago, q_agp, q_sUnp, q_unk, q_setc, q_setn, q_sPar2, q_p2v, q_p2o, q_p2jv, q_p2jo, q_sAug, q_auj, q_aul, q_aumv, q_aumo, q_sWhile, q_wht, q_whf, q_frk, q_forN, q_forC, q_flk, q_putN, q_putT, q_iok, q_ioj, q_svT, q_svR, q_svS, q_svO, q_seT, q_seR, q_seS, q_seO, q_seW, q_iView, q_ivw, q_ivv, q_iRng1, q_Sl, q_slk1, q_slk2, q_slk3, q_ePN, q_ePS, q_epk, q_cutT, q_cutR, q_cutS, q_cutO, q_cutW, q_SlSt, q_stk1, q_stk2, q_stk3, q_revO, q_revR, q_revW, q_LR, q_lrk, q_lrj, q_iRng2, q_r2k, q_iRng3, q_r3k, q_r3j, q_r3i, q_sUnpL, q_ulk, q_ulj, q_lkO, q_lkR, q_lkW, q_lkT, q_sExtA, q_xaj, q_xak, q_xam, q_laO, q_laW, q_laR, q_laT, q_LR3, q_l3k, q_l3j, q_l3i, q_sSetSl, q_ssk2, q_ssj, q_ssl, q_ssm, q_ssn, opt_some, opt_none, EO.bind_ok, EO.bind_ex, EO.then_ok, EO.then_ex, SO.seq_nx, SO.seq_rt, SO.seq_bk, SO.seq_ct, SO.seq_ex, SO.turn_nx, SO.turn_ct, SO.turn_bk, SO.turn_rt, SO.turn_ex, neg_i, int_i, len_tup, len_ro, len_own, len_view, list_tup, list_ro, list_scr, list_own, list_view, tuple_tup, tuple_ro, tuple_own, tuple_view, ix_tup, ix_ro, ix_own, ix_view, Option.map_some, line, List.getElem?_cons_zero, List.getElem?_cons_succ, List.getElem?_nil, List.set_cons_zero, List.set_cons_succ, List.set_nil, List.length_cons, List.length_nil, List.map_cons, List.map_nil, List.cons_append, List.nil_append, Bool.not_true, Bool.not_false, if_true, if_false, Bool.false_eq_true, Nat.reduceAdd, Nat.reduceSub, q_fFld, q_sFldSet, q_fskv, q_fsko, q_fsj, q_sFldHp, q_fhk, q_sFldAug, q_fak, q_faj, q_fal, q_famv, q_famo, q_fnk, q_eMeth, q_methK, q_eProp, q_propK, q_noEx, q_eMake, q_mkj, q_makeK, q_eMakeKw, q_mwk, q_mwj, q_eCallK, q_ckk, q_ckj, q_sAppHp, q_appHk, q_apO1, q_appHjv, q_appHjo, q_apO2, q_sRaise, q_sTryAs, q_tanx, q_tart, q_taex, q_taot, q_taof, q_tah, q_sTry, q_ttnx, q_ttrt, q_ttex, q_ttot, q_ttof, q_noErt, q_noEnx, q_clrt, q_clnx, q_allA, q_errIs, q_take0, q_iZip, q_zk1, q_zk2, q_zkO, q_svObj, q_seObj, q_sqO, q_llObj, q_lkO1, q_tupObj, q_tpO, q_lstObj, q_lsO, q_C', nv_i, nv_m, nv_N, nv_b, nv_s, nv_t, nvs_n, nvs_c, nn_add, nn_sub, nn_mul, nn_mod, nn_div, nn_shl, nn_shr, nn_and, nn_or, nn_xor, nn_lt, nn_le, nn_gt, nn_ge, nn_max, nn_min, nn_abs, at_n, at_neg, nat_get, ix_o, ixO_l, len_o, lenO_l, irk_n, r2j_n, cut_nn, cut_n_, cut__n, nats_drop, nats_take, nats_app, nats_app1, nats_rep, nats_nil, nats_rev, nats_len, nats_set, add_tt, add_oo, add_or, add_ro', add_rr, add_ow, add_wo, add_ww, mul_o, is_int_i, is_bool_i, is_tup_t, is_tup_i, is_tup_r, is_tup_o, none_n, none_i, none_t, nnone_n, nnone_i, nnone_t, tr_n, ifp, ifn, dec_t, dec_f, eq_vv, ne_vv, eq_ov, ne_ov, eq_vo, ne_vo, eq_oo, ne_oo, eq_wo, eq_ow, eq_wv, okD_n, okD_b, okD_i, okD_s, okD_t, okD_r, okDs_n, okDs_c, okDs_nats, veq_nn, veq_ii, veq_ss, veq_bb, veq_N, veq_Ni, veq_iN, veq_tt, veq_rr, veqs_n, veqs_c, veqs_nc, veqs_cn, veqs_nats, ixN_nat, Bool.and_true, Bool.true_and, Bool.and_false, Bool.false_and, Bool.and_self, Option.bind_some, List.length_append, List.length_take, List.length_drop, List.length_reverse, List.length_replicate, List.getElem?_append, List.append_assoc, List.set_set, List.length_set, and_self, true_and, and_true, List.lookup_cons_self, nn_augA, nn_augS, fin_self, fin_selfN, fin_len, fin_lenN, fin_ex, set_last, get_last, Nat.sub_self, in_n, and_255, and_32, and_64, q_wipN, q_wipC, List.getElem?_set_self, so0, so1, so2, so3, so4, so5, so6, so7, so8, so9, so10, so11, so12, sq13, sq14, sq15, sq16, sq17, sq18, sq19, sq20, sq21, sq22, sq23, sq24, sq25, sq26, sq27, sq28, sq29, sq30, sq31, sq32, sq33, sq34, sq35, sq36, sq37, sq38, sq39, sq40, sq41, sq42, sq43, sq44, sq45, sq46, sq47, sq48, sq49, sq50, sq51, sq52, sq53, sq54, sq55, sq56, sq57, sq58, sq59, sq60, sq61, sq62, sq63, sq64, sq65, sq66, sq67, sq68, sq69, sq70, sq71, sq72, sq73, sq74, sq75, sq76, sq77, sq78, sq79, sq80, sq81, sq82, sq83, sq84, sq85, sq86, sq87, sq88, sq89, sq90, sq91, sq92, sq93, sq94, sq95, sq96, sq97, sq98, sq99, sq100, sq101, sq102, sq103, sq104, sq105, sq106, sq107, sq108, sq109, sq110, sq111, sq112, sq113, sq114, sq115, sq116, sq117, sq118, sq119, sq120, sq121, sq122, sq123, sq124, sq125, sq126, sq127, sq128, sq129, sq130, sq131, sq132, sq133, sq134, sq135, sq136, sq137, sq138, sq139, sq140, sq141, sq142, sq143, sq144, sq145, sq146, sq147, sq148, sq149, sq150, sq151, sq152, sq153, sq154, sq155, sq156, sq157, sq158, sq159, sq160, sq161, sq162, sq163, sq164, sq165, sq166, sq167, sq168, fin_newS, fin_newB, fin_newI, fin_newNo, rep_0, rep_S, flat_one, rep_n, dec_tf, dec_ft, dec_F, dec_T, get_p0, get_p1, set_p0, set_p1, q_eSm, q_sm1K, q_smj, q_sRaiseAt, q_raK, q_iOfS, q_isS, str_s, q_iOf, q_ioE_r, q_ioE_t, q_ioE_o, q_ioE_w, q_ioE_s, q_ioV_r, q_ioV_t, q_ioV_o, q_ioV_s, q_ioV_h, q_ioE_h, q_ioH, is_str_s, is_str_i, is_str_N, is_str_t, is_str_r, is_str_b, q_rvO, q_rvR, q_rvW, q_rvT, mulT_n, $ls,*])

open PySem (Str)
/-! ### words of 64 bits -/
theorem and64 {a : Nat} : a &&& 18446744073709551615 < 2 ^ 64 := Nat.lt_of_le_of_lt Nat.and_le_right (by decide)
def rotB (w k : Nat) : Nat := (w / 2 ^ k ||| w * 2 ^ (64 - k)) &&& 18446744073709551615
theorem rotB_lt {w k : Nat} : rotB w k < 2 ^ 64 := and64
def addB3 (us : List Nat) (t f x : Nat) : List Nat := us.set t ((us.getD t 0 + us.getD f 0 + x) &&& 18446744073709551615)
def addB (us : List Nat) (t f : Nat) : List Nat := us.set t ((us.getD t 0 + us.getD f 0) &&& 18446744073709551615)
def rolB (us : List Nat) (t f k : Nat) : List Nat := us.set t (rotB (us.getD t 0 ^^^ us.getD f 0) k)
def WB (n : Nat) (us : List Nat) : Prop := us.length = n ∧ ∀ x, x ∈ us → x < 2 ^ 64
theorem WB.at {n : Nat} {us : List Nat} (g : WB n us) (i : Nat) : us.getD i 0 < 2 ^ 64 := by
  rw [List.getD_eq_getElem?_getD]
  by_cases h : i < us.length
  · rw [List.getElem?_eq_getElem h]
    exact g.2 _ (List.getElem_mem h)
  · rw [List.getElem?_eq_none (by omega)]
    exact Nat.two_pow_pos _
theorem WB.set {n : Nat} {us : List Nat} (g : WB n us) {i x : Nat} (h : x < 2 ^ 64) : WB n (us.set i x) := ⟨by rw [List.length_set]; exact g.1, fun y hy => by
  rcases List.mem_or_eq_of_mem_set hy with z | z
  · exact g.2 y z
  · rw [z]; exact h⟩
theorem WB.add3 {n : Nat} {us : List Nat} (g : WB n us) {t f x : Nat} : WB n (addB3 us t f x) := g.set and64
theorem WB.add {n : Nat} {us : List Nat} (g : WB n us) {t f : Nat} : WB n (addB us t f) := g.set and64
theorem WB.rol {n : Nat} {us : List Nat} (g : WB n us) {t f k : Nat} : WB n (rolB us t f k) := g.set rotB_lt
def quartB (us : List Nat) (a b c d x y : Nat) : List Nat := rolB (addB (rolB (addB3 (rolB (addB (rolB (addB3 us a b x) d a 32) c d) b c 24) a b y) d a 16) c d) b c 63
theorem WB.quart {n : Nat} {us : List Nat} (g : WB n us) {a b c d x y : Nat} : WB n (quartB us a b c d x y) := g.add3.rol.add.rol.add3.rol.add.rol
theorem turn_okB {h : Heap} {w k : Nat} (hw : w < 2 ^ 64) (hk : k ≤ 64) : f_turn [.v (.int (w : Int)), .v (.int (k : Int))] h = .ok (.v (.int (rotB w k : Nat))) h := by
  unfold f_turn rotB
  rw [mkFn_eq]
  unfold b_turn k_MASK_blake
  simp_all []
section
variable {pr : Heap} {us : List Nat} {a b c d x y : Nat} {v1 : RV}
abbrev envQ (pr : Heap) (v1 : RV) (x y a b c d : Nat) : Env := [some (.v (.obj pr.length)), some v1, some (.v (.int (x : Int))), some (.v (.int (y : Int))), some (.v (.int (a : Int))), some (.v (.int (b : Int))), some (.v (.int (c : Int))), some (.v (.int (d : Int)))]
theorem qs1 (g : WB 16 us) (ha : a < 16) (hb : b < 16) : sSetHp (eVar 0) (eVar 4) (e2 fAnd (e2 fAdd (e2 fAdd (e2 fIx (eVar 0) (eVar 4)) (e2 fIx (eVar 0) (eVar 5))) (eVar 2)) (eC k_MASK_blake)) (envQ pr v1 x y a b c d) (pr ++ [.lst (vNats us)]) = .nx (envQ pr v1 x y a b c d) (pr ++ [.lst (vNats (addB3 us a b x))]) := by
  have l := g.1
  unfold addB3 k_MASK_blake
  simp_all []
theorem qs5 (g : WB 16 us) (ha : a < 16) (hb : b < 16) : sSetHp (eVar 0) (eVar 4) (e2 fAnd (e2 fAdd (e2 fAdd (e2 fIx (eVar 0) (eVar 4)) (e2 fIx (eVar 0) (eVar 5))) (eVar 3)) (eC k_MASK_blake)) (envQ pr v1 x y a b c d) (pr ++ [.lst (vNats us)]) = .nx (envQ pr v1 x y a b c d) (pr ++ [.lst (vNats (addB3 us a b y))]) := by
  have l := g.1
  unfold addB3 k_MASK_blake
  simp_all []
theorem qs3 (g : WB 16 us) (hc : c < 16) (hd : d < 16) : sSetHp (eVar 0) (eVar 6) (e2 fAnd (e2 fAdd (e2 fIx (eVar 0) (eVar 6)) (e2 fIx (eVar 0) (eVar 7))) (eC k_MASK_blake)) (envQ pr v1 x y a b c d) (pr ++ [.lst (vNats us)]) = .nx (envQ pr v1 x y a b c d) (pr ++ [.lst (vNats (addB us c d))]) := by
  have l := g.1
  unfold addB k_MASK_blake
  simp_all []
theorem qs2a (g : WB 16 us) (ha : a < 16) (hd : d < 16) : sSetHp (eVar 0) (eVar 7) (eCall f_turn (aCons (e2 fXor (e2 fIx (eVar 0) (eVar 7)) (e2 fIx (eVar 0) (eVar 4))) (aCons (eC (.int 32)) (aNil)))) (envQ pr v1 x y a b c d) (pr ++ [.lst (vNats us)]) = .nx (envQ pr v1 x y a b c d) (pr ++ [.lst (vNats (rolB us d a 32))]) := by
  have l := g.1
  have t := fun h => turn_okB (h := h) (w := us.getD d 0 ^^^ us.getD a 0) (k := 32) (Nat.xor_lt_two_pow (g.at d) (g.at a)) (by decide)
  unfold rolB
  simp_all [t]
theorem qs2b (g : WB 16 us) (ha : a < 16) (hd : d < 16) : sSetHp (eVar 0) (eVar 7) (eCall f_turn (aCons (e2 fXor (e2 fIx (eVar 0) (eVar 7)) (e2 fIx (eVar 0) (eVar 4))) (aCons (eC (.int 16)) (aNil)))) (envQ pr v1 x y a b c d) (pr ++ [.lst (vNats us)]) = .nx (envQ pr v1 x y a b c d) (pr ++ [.lst (vNats (rolB us d a 16))]) := by
  have l := g.1
  have t := fun h => turn_okB (h := h) (w := us.getD d 0 ^^^ us.getD a 0) (k := 16) (Nat.xor_lt_two_pow (g.at d) (g.at a)) (by decide)
  unfold rolB
  simp_all [t]
theorem qs4a (g : WB 16 us) (hb : b < 16) (hc : c < 16) : sSetHp (eVar 0) (eVar 5) (eCall f_turn (aCons (e2 fXor (e2 fIx (eVar 0) (eVar 5)) (e2 fIx (eVar 0) (eVar 6))) (aCons (eC (.int 24)) (aNil)))) (envQ pr v1 x y a b c d) (pr ++ [.lst (vNats us)]) = .nx (envQ pr v1 x y a b c d) (pr ++ [.lst (vNats (rolB us b c 24))]) := by
  have l := g.1
  have t := fun h => turn_okB (h := h) (w := us.getD b 0 ^^^ us.getD c 0) (k := 24) (Nat.xor_lt_two_pow (g.at b) (g.at c)) (by decide)
  unfold rolB
  simp_all [t]
theorem qs4b (g : WB 16 us) (hb : b < 16) (hc : c < 16) : sSetHp (eVar 0) (eVar 5) (eCall f_turn (aCons (e2 fXor (e2 fIx (eVar 0) (eVar 5)) (e2 fIx (eVar 0) (eVar 6))) (aCons (eC (.int 63)) (aNil)))) (envQ pr v1 x y a b c d) (pr ++ [.lst (vNats us)]) = .nx (envQ pr v1 x y a b c d) (pr ++ [.lst (vNats (rolB us b c 63))]) := by
  have l := g.1
  have t := fun h => turn_okB (h := h) (w := us.getD b 0 ^^^ us.getD c 0) (k := 63) (Nat.xor_lt_two_pow (g.at b) (g.at c)) (by decide)
  unfold rolB
  simp_all [t]
theorem quarter_okB (g : WB 16 us) (ha : a < 16) (hb : b < 16) (hc : c < 16) (hd : d < 16) :
    f_quarter [.v (.obj pr.length), .v (.tup [.int (a : Int), .int (b : Int), .int (c : Int), .int (d : Int)]), .v (.int (x : Int)), .v (.int (y : Int))] (pr ++ [.lst (vNats us)]) = .ok (.v .none) (pr ++ [.lst (vNats (quartB us a b c d x y))]) := by
  have s1 := fun v1 => qs1 (pr := pr) (v1 := v1) (x := x) (y := y) (c := c) (d := d) g ha hb
  have g1 := g.add3 (t := a) (f := b) (x := x)
  have s2 := fun v1 => qs2a (pr := pr) (v1 := v1) (x := x) (y := y) (b := b) (c := c) g1 ha hd
  have g2 := g1.rol (t := d) (f := a) (k := 32)
  have s3 := fun v1 => qs3 (pr := pr) (v1 := v1) (x := x) (y := y) (a := a) (b := b) g2 hc hd
  have g3 := g2.add (t := c) (f := d)
  have s4 := fun v1 => qs4a (pr := pr) (v1 := v1) (x := x) (y := y) (a := a) (d := d) g3 hb hc
  have g4 := g3.rol (t := b) (f := c) (k := 24)
  have s5 := fun v1 => qs5 (pr := pr) (v1 := v1) (x := x) (y := y) (c := c) (d := d) g4 ha hb
  have g5 := g4.add3 (t := a) (f := b) (x := y)
  have s6 := fun v1 => qs2b (pr := pr) (v1 := v1) (x := x) (y := y) (b := b) (c := c) g5 ha hd
  have g6 := g5.rol (t := d) (f := a) (k := 16)
  have s7 := fun v1 => qs3 (pr := pr) (v1 := v1) (x := x) (y := y) (a := a) (b := b) g6 hc hd
  have g7 := g6.add (t := c) (f := d)
  have s8 := fun v1 => qs4b (pr := pr) (v1 := v1) (x := x) (y := y) (a := a) (d := d) g7 hb hc
  unfold f_quarter quartB
  rw [mkFn_eq]
  unfold b_quarter
  unfold envQ at s1 s2 s3 s4 s5 s6 s7 s8
  simp_all [-q_sSetHp, s1, s2, s3, s4, s5, s6, s7, s8]
end
/-! ### the first words -/
def rootW (p : Nat) : Nat := PySem.Float64.isqrt (p * 2 ^ 128) &&& 18446744073709551615
theorem root_okB {h : Heap} {p : Nat} (hp : p < 2 ^ 100) : f_square_root_word [.v (.int (p : Int))] h = .ok (.v (.int (rootW p : Nat))) h := by
  unfold f_square_root_word rootW
  rw [mkFn_eq]
  unfold b_square_root_word k_MASK_roots
  simp_all [Int.toNat_natCast]
def PR8 : List Nat := [2, 3, 5, 7, 11, 13, 17, 19]
def IVB : List Nat := PR8.map rootW
theorem IVB_wb : WB 8 IVB := ⟨by unfold IVB; rw [List.length_map]; rfl, fun x hx => by
  obtain ⟨p, _, rfl⟩ := List.mem_map.mp hx
  exact and64⟩
theorem initial_okB {h : Heap} : f_initial_words [] h = .ok (.v (.tup (vNats IVB))) h := by
  have e : eLc [0] (.nm 0) (iSeqE (eSl (eC k_PRIMES) none (some (eC (.int 8))))) tYes c_initial_words_1 [none] h = .ok (.own (vNats IVB)) h := by
    refine lc_nat (own := [0]) (s := 0) (it := iSeqE (eSl (eC k_PRIMES) none (some (eC (.int 8))))) (e := c_initial_words_1) (r := [none]) (h := h) (h1 := h) (dep := []) (ns := PR8) rootW rfl (by decide) fun i hi => ?_
    have hp : i < 2 ^ 100 := by
      unfold PR8 at hi
      simp only [List.mem_cons, List.not_mem_nil, or_false] at hi
      omega
    have er := fun h => root_okB (h := h) hp
    unfold c_initial_words_1
    simp_all [er]
  unfold f_initial_words
  rw [mkFn_eq]
  unfold b_initial_words
  generalize IVB = Z at *
  simp_all [e]
/-! ### compress -/
def plB : List (List Nat) := [[0, 4, 8, 12], [1, 5, 9, 13], [2, 6, 10, 14], [3, 7, 11, 15], [0, 5, 10, 15], [1, 6, 11, 12], [2, 7, 8, 13], [3, 4, 9, 14]]
def orB : List (List Nat) := [[0, 1, 2, 3, 4, 5, 6, 7, 8, 9, 10, 11, 12, 13, 14, 15], [14, 10, 4, 8, 9, 15, 13, 6, 1, 12, 0, 2, 11, 7, 5, 3], [11, 8, 12, 0, 5, 2, 15, 13, 10, 14, 3, 6, 7, 1, 9, 4], [7, 9, 3, 1, 13, 12, 11, 14, 2, 6, 5, 10, 4, 0, 15, 8],
  [9, 0, 5, 7, 2, 4, 10, 15, 14, 1, 11, 12, 6, 8, 3, 13], [2, 12, 6, 10, 0, 11, 8, 3, 4, 13, 7, 5, 15, 14, 1, 9], [12, 5, 1, 15, 14, 13, 4, 10, 0, 7, 6, 3, 9, 2, 8, 11], [13, 11, 7, 14, 12, 1, 3, 9, 5, 0, 15, 4, 8, 6, 2, 10],
  [6, 15, 14, 9, 11, 3, 0, 8, 12, 2, 13, 7, 1, 4, 10, 5], [10, 2, 8, 4, 7, 6, 1, 5, 15, 11, 9, 14, 3, 12, 13, 0]]
def plc (k i : Nat) : Nat := (plB.getD k []).getD i 0
theorem plc_lt {k i : Nat} (hk : k < 8) (hi : i < 4) : plc k i < 16 := by
  have : ∀ k, k < 8 → ∀ i, i < 4 → plc k i < 16 := by decide +kernel
  exact this k hk i hi
theorem orB_ok {n : Nat} (hn : n < 10) : (orB.getD n []).length = 16 ∧ ∀ j, j < 16 → (orB.getD n []).getD j 0 < 16 := by
  have : ∀ n, n < 10 → (orB.getD n []).length = 16 ∧ ∀ j, j < 16 → (orB.getD n []).getD j 0 < 16 := by decide +kernel
  exact this n hn
theorem ord_ix {h : Heap} {n : Nat} (hn : n < 10) : fIx h (.v (nv k_ORDERS)) (.v (.int (n : Int))) = some (.v (.tup (vNats (orB.getD n [])))) := by
  obtain rfl | rfl | rfl | rfl | rfl | rfl | rfl | rfl | rfl | rfl : n = 0 ∨ n = 1 ∨ n = 2 ∨ n = 3 ∨ n = 4 ∨ n = 5 ∨ n = 6 ∨ n = 7 ∨ n = 8 ∨ n = 9 := by omega
  all_goals rfl
def stepB (w : List Nat) (o : List Nat) (us : List Nat) (k : Nat) : List Nat := quartB us (plc k 0) (plc k 1) (plc k 2) (plc k 3) (w.getD (o.getD (2 * k) 0) 0) (w.getD (o.getD (2 * k + 1) 0) 0)
theorem stepB_wb {w o us : List Nat} {k : Nat} (g : WB 16 us) : WB 16 (stepB w o us k) := g.quart
def places : List Val := numd 0 (plB.map fun p => .tup (vNats p))
theorem places_it {r : Env} {h : Heap} : iNumS seqV (eC k_PLACES) r h = .ok (places, []) h := num_t rfl
theorem places_at {k : Nat} {v : Val} (hk : places[k]? = some v) : k < 8 ∧ v = .tup [.int (k : Int), .tup [.int (plc k 0 : Nat), .int (plc k 1 : Nat), .int (plc k 2 : Nat), .int (plc k 3 : Nat)]] := by
  have hl : k < 8 := (List.getElem?_eq_some_iff.mp hk).1
  refine ⟨hl, ?_⟩
  obtain rfl | rfl | rfl | rfl | rfl | rfl | rfl | rfl : k = 0 ∨ k = 1 ∨ k = 2 ∨ k = 3 ∨ k = 4 ∨ k = 5 ∨ k = 6 ∨ k = 7 := by omega
  all_goals exact (Option.some.inj hk).symm
/-- a list of numbers as an argument -/
def LV (v : RV) (ws : List Nat) : Prop := v = .view (vNats ws) ∨ v = .v (.ro (vNats ws)) ∨ v = .v (.tup (vNats ws))
theorem round_ok {pr : Heap} {v0 v2 v3 : RV} {y6 y7 y8 : Option RV} {us ws o : List Nat} (g : WB 16 us) (gw : WB 16 ws) (lo : o.length = 16) (ho : ∀ j, j < 16 → o.getD j 0 < 16) {n : Nat} {wv : RV} (hw : LV wv ws) :
    ∃ y7 y8, sFor (.tp [7, 8]) (iNumS seqV (eC k_PLACES)) l_compress_1 [some v0, some wv, some v2, some v3, some (.v (.obj pr.length)), some (.v (.int (n : Int))), some (.v (.tup (vNats o))), y7, y8] (pr ++ [.lst (vNats us)]) =
      .nx [some v0, some wv, some v2, some v3, some (.v (.obj pr.length)), some (.v (.int (n : Int))), some (.v (.tup (vNats o))), y7, y8] (pr ++ [.lst (vNats ((List.range' 0 8).foldl (stepB ws o) us))]) := by
  obtain ⟨r2, h2, e, y7, y8, rfl, rfl, _⟩ := for_ok (g := .tp [7, 8]) (it := iNumS seqV (eC k_PLACES)) (b := l_compress_1) (r := [some v0, some wv, some v2, some v3, some (.v (.obj pr.length)), some (.v (.int (n : Int))), some (.v (.tup (vNats o))), y7, y8]) (h := pr ++ [.lst (vNats us)]) (h1 := pr ++ [.lst (vNats us)]) (xs := places)
    (fun k r h => ∃ y7 y8, r = [some v0, some wv, some v2, some v3, some (.v (.obj pr.length)), some (.v (.int (n : Int))), some (.v (.tup (vNats o))), y7, y8] ∧ h = pr ++ [.lst (vNats ((List.range' 0 k).foldl (stepB ws o) us))] ∧ WB 16 ((List.range' 0 k).foldl (stepB ws o) us))
    places_it ⟨y7, y8, rfl, rfl, g⟩ fun k v r h hk ⟨y7, y8, q1, q2, q3⟩ => by
      subst q1 q2
      obtain ⟨hk8, rfl⟩ := places_at hk
      have ef : (List.range' 0 (k + 1)).foldl (stepB ws o) us = stepB ws o ((List.range' 0 k).foldl (stepB ws o) us) k := by
        rw [List.range'_concat, List.foldl_append, Nat.zero_add, Nat.one_mul]
        rfl
      rw [ef]
      generalize (List.range' 0 k).foldl (stepB ws o) us = u at *
      have a0 := plc_lt hk8 (i := 0) (by decide)
      have a1 := plc_lt hk8 (i := 1) (by decide)
      have a2 := plc_lt hk8 (i := 2) (by decide)
      have a3 := plc_lt hk8 (i := 3) (by decide)
      have b0 := ho (2 * k) (by omega)
      have b1 := ho (2 * k + 1) (by omega)
      have lw := gw.1
      have eq := quarter_okB (pr := pr) (x := ws.getD (o.getD (2 * k) 0) 0) (y := ws.getD (o.getD (2 * k + 1) 0) 0) q3 a0 a1 a2 a3
      have ew : ∀ (i : Nat), i < 16 → ∀ h, fIx h wv (.v (.int (i : Int))) = some (.v (.int (ws.getD i 0 : Nat))) := fun i hi h => by
        rcases hw with z | z | z <;> subst z <;> simp_all []
      have e0 := ew _ b0
      have e1 := ew _ b1
      refine ⟨_, rfl, [some v0, some wv, some v2, some v3, some (.v (.obj pr.length)), some (.v (.int (n : Int))), some (.v (.tup (vNats o))), some (.v (.int (k : Int))), some (.v (.tup [.int (plc k 0 : Nat), .int (plc k 1 : Nat), .int (plc k 2 : Nat), .int (plc k 3 : Nat)]))], _, .inl ?_, _, _, rfl, rfl, stepB_wb q3⟩
      unfold l_compress_1 stepB
      generalize plc k 0 = p0 at *
      generalize plc k 1 = p1 at *
      generalize plc k 2 = p2 at *
      generalize plc k 3 = p3 at *
      have ev : wv.arg = wv ∨ True := .inr trivial
      rcases hw with z | z | z <;> subst z <;> simp_all [eq, e0, e1]
  exact ⟨y7, y8, e⟩
def roundB (w us : List Nat) (n : Nat) : List Nat := (List.range' 0 8).foldl (stepB w (orB.getD (n % 10) [])) us
def mixB (w us : List Nat) : List Nat := (List.range' 0 12).foldl (roundB w) us
theorem fold_wb {α : Type} {F : List Nat → α → List Nat} (h : ∀ us a, WB 16 us → WB 16 (F us a)) : ∀ (l : List α) (us : List Nat), WB 16 us → WB 16 (l.foldl F us)
  | [], _, g => g
  | a :: l, us, g => fold_wb h l _ (h us a g)
theorem round_wb {w us : List Nat} {n : Nat} (g : WB 16 us) : WB 16 (roundB w us n) := fold_wb (fun _ _ g => stepB_wb g) _ _ g
theorem mix_wb {w us : List Nat} (g : WB 16 us) : WB 16 (mixB w us) := fold_wb (fun _ _ g => round_wb g) _ _ g
def startB (st : List Nat) (n : Nat) : List Nat := ((st ++ IVB).set 12 ((st ++ IVB).getD 12 0 ^^^ (n &&& 18446744073709551615))).set 13 (((st ++ IVB).set 12 ((st ++ IVB).getD 12 0 ^^^ (n &&& 18446744073709551615))).getD 13 0 ^^^ (n / 2 ^ 64 &&& 18446744073709551615))
def lastB (us : List Nat) (l : Bool) : List Nat := if l = true then us.set 14 (us.getD 14 0 ^^^ 18446744073709551615) else us
def outB (st v : List Nat) : List Nat := (List.range' 0 8).map fun k => st.getD k 0 ^^^ v.getD k 0 ^^^ v.getD (k + 8) 0
def CB (st w : List Nat) (n : Nat) (l : Bool) : List Nat := outB st (mixB w (lastB (startB st n) l))
theorem st_wb {st : List Nat} (g : WB 8 st) : WB 16 (st ++ IVB) := ⟨by rw [List.length_append, g.1, IVB_wb.1], fun x hx => (List.mem_append.mp hx).elim (g.2 x) (IVB_wb.2 x)⟩
theorem startB_wb {st : List Nat} {n : Nat} (g : WB 8 st) : WB 16 (startB st n) := by
  have g0 := st_wb g
  have g1 : WB 16 ((st ++ IVB).set 12 ((st ++ IVB).getD 12 0 ^^^ (n &&& 18446744073709551615))) := g0.set (Nat.xor_lt_two_pow (g0.at 12) and64)
  exact g1.set (Nat.xor_lt_two_pow (g1.at 13) and64)
theorem lastB_wb {us : List Nat} {l : Bool} (g : WB 16 us) : WB 16 (lastB us l) := by
  unfold lastB
  split
  · exact g.set (Nat.xor_lt_two_pow (g.at 14) (by decide))
  · exact g
theorem outB_wb {st v : List Nat} (g : WB 8 st) (gv : WB 16 v) : WB 8 (outB st v) := ⟨by unfold outB; rw [List.length_map, List.length_range'], fun x hx => by
  obtain ⟨k, _, rfl⟩ := List.mem_map.mp hx
  exact Nat.xor_lt_two_pow (Nat.xor_lt_two_pow (g.at k) (gv.at k)) (gv.at (k + 8))⟩
theorem CB_wb {st w : List Nat} {n : Nat} {l : Bool} (g : WB 8 st) : WB 8 (CB st w n l) := outB_wb g (mix_wb (lastB_wb (startB_wb g)))
theorem rounds_ok {pr : Heap} {v0 v2 v3 : RV} {us ws : List Nat} (g : WB 16 us) (gw : WB 16 ws) {wv : RV} (hw : LV wv ws) :
    ∃ y5 y6 y7 y8, sFor (.nm 5) (iRng1 (eC (.int 12))) l_compress_2 [some v0, some wv, some v2, some v3, some (.v (.obj pr.length)), none, none, none, none] (pr ++ [.lst (vNats us)]) =
      .nx [some v0, some wv, some v2, some v3, some (.v (.obj pr.length)), y5, y6, y7, y8] (pr ++ [.lst (vNats (mixB ws us))]) := by
  obtain ⟨r2, h2, e, y5, y6, y7, y8, rfl, rfl, _⟩ := for_rng (s := 5) (n := 12) (it := iRng1 (eC (.int 12))) (b := l_compress_2) (r := [some v0, some wv, some v2, some v3, some (.v (.obj pr.length)), none, none, none, none]) (h := pr ++ [.lst (vNats us)]) (h1 := pr ++ [.lst (vNats us)])
    (fun k r h => ∃ y5 y6 y7 y8, r = [some v0, some wv, some v2, some v3, some (.v (.obj pr.length)), y5, y6, y7, y8] ∧ h = pr ++ [.lst (vNats ((List.range' 0 k).foldl (roundB ws) us))] ∧ WB 16 ((List.range' 0 k).foldl (roundB ws) us))
    (by simp_all []) ⟨none, none, none, none, rfl, rfl, g⟩ fun k r h hk ⟨y5, y6, y7, y8, q1, q2, q3⟩ => by
      subst q1 q2
      have ef : (List.range' 0 (k + 1)).foldl (roundB ws) us = roundB ws ((List.range' 0 k).foldl (roundB ws) us) k := by
        rw [List.range'_concat, List.foldl_append, Nat.zero_add, Nat.one_mul, List.foldl_cons, List.foldl_nil]
      rw [ef]
      generalize (List.range' 0 k).foldl (roundB ws) us = u at *
      have hn : k % 10 < 10 := Nat.mod_lt _ (by decide)
      have eo := fun h => ord_ix (h := h) hn
      obtain ⟨z7, z8, er⟩ := round_ok (pr := pr) (v0 := v0) (v2 := v2) (v3 := v3) (y6 := y6) (y7 := y7) (y8 := y8) q3 gw (orB_ok hn).1 (orB_ok hn).2 (n := k) hw
      refine ⟨[some v0, some wv, some v2, some v3, some (.v (.obj pr.length)), some (.v (.int (k : Int))), some (.v (.tup (vNats (orB.getD (k % 10) [])))), z7, z8], pr ++ [.lst (vNats (roundB ws u k))], ?_, _, _, _, _, rfl, rfl, round_wb q3⟩
      unfold l_compress_2
      unfold roundB
      generalize orB.getD (k % 10) [] = o at *
      simp_all [-q_sFor, eo]
      exact er
  exact ⟨y5, y6, y7, y8, e⟩
noncomputable def tl_compress : S := sCons (sFor (.nm 5) (iRng1 (eC (.int 12))) l_compress_2) (sRet (e1 fTuple (eLc [7] (.nm 7) (iRng1 (eC (.int 8))) (tYes) c_compress_3)))
theorem b_compress_eq : b_compress = sCons (sHeap 4 (e2 fAdd (e1 fList (eVar 0)) (e1 fList (eCall f_initial_words aNil)))) (sCons (sSetHp (eVar 4) (eC (.int 12)) (e2 fXor (e2 fIx (eVar 4) (eC (.int 12))) (e2 fAnd (eVar 2) (eC k_MASK_blake)))) (sCons (sSetHp (eVar 4) (eC (.int 13)) (e2 fXor (e2 fIx (eVar 4) (eC (.int 13))) (e2 fAnd (e2 fShr (eVar 2) (eC (.int 64))) (eC k_MASK_blake)))) (sCons (sIf (tTru (eVar 3)) (sSetHp (eVar 4) (eC (.int 14)) (e2 fXor (e2 fIx (eVar 4) (eC (.int 14))) (eC k_MASK_blake))) (sNil)) (tl_compress)))) := rfl
theorem tail_okB {pr : Heap} {n : RV} {l : RV} {us ws st : List Nat} (gs : WB 8 st) (g : WB 16 us) (gw : WB 16 ws) {wv : RV} (hw : LV wv ws) :
    tl_compress [some (.v (.tup (vNats st))), some wv, some n, some l, some (.v (.obj pr.length)), none, none, none, none] (pr ++ [.lst (vNats us)]) = .rt (.v (.tup (vNats (outB st (mixB ws us))))) (pr ++ [.lst (vNats (mixB ws us))]) := by
  obtain ⟨y5, y6, y7, y8, e⟩ := rounds_ok (pr := pr) (v0 := .v (.tup (vNats st))) (v2 := n) (v3 := l) g gw hw
  have gm := mix_wb (w := ws) g
  generalize mixB ws us = m at *
  have ls := gs.1
  have lm := gm.1
  have ec : ∀ y7, eLc [7] (.nm 7) (iRng1 (eC (.int 8))) tYes c_compress_3 [some (.v (.tup (vNats st))), some wv, some n, some l, some (.v (.obj pr.length)), y5, y6, y7, y8] (pr ++ [.lst (vNats m)]) = .ok (.own (vNats (outB st m))) (pr ++ [.lst (vNats m)]) := fun y7 => by
    unfold outB
    refine lc_nat (own := [7]) (s := 7) (it := iRng1 (eC (.int 8))) (e := c_compress_3) (r := [some (.v (.tup (vNats st))), some wv, some n, some l, some (.v (.obj pr.length)), y5, y6, y7, y8]) (h := pr ++ [.lst (vNats m)]) (h1 := pr ++ [.lst (vNats m)]) (dep := []) (ns := List.range' 0 8) (fun k => st.getD k 0 ^^^ m.getD k 0 ^^^ m.getD (k + 8) 0) (by simp_all []) (by decide) fun i hi => ?_
    have := List.mem_range'_1.mp hi
    unfold c_compress_3
    simp_all []
  have lo := (outB_wb gs gm).1
  generalize outB st m = o at *
  unfold tl_compress
  simp_all [-q_sFor, e, ec]
theorem compress_okB {h : Heap} {n : Nat} {l : Bool} {ws st : List Nat} (gs : WB 8 st) (gw : WB 16 ws) {wv : RV} (hw : LV wv ws) (hn : n < 2 ^ 200) :
    f_compress [.v (.tup (vNats st)), wv, .v (.int (n : Int)), .v (.bool l)] h = .ok (.v (.tup (vNats (CB st ws n l)))) h := by
  have g0 := startB_wb (n := n) gs
  have gl := lastB_wb (l := l) g0
  have et := fun l => tail_okB (pr := h) (n := .v (.int (n : Int))) (l := l) gs gl gw hw
  have ls := gs.1
  have li := IVB_wb.1
  have ei := fun h => initial_okB (h := h)
  unfold f_compress
  rw [mkFn_eq, b_compress_eq]
  unfold CB
  generalize outB st (mixB ws (lastB (startB st n) l)) = o at *
  generalize mixB ws (lastB (startB st n) l) = m at *
  unfold k_MASK_blake
  unfold startB at et
  unfold lastB at et
  simp only [and_64] at et
  generalize IVB = iv at *
  cases l with
  | true =>
    rw [if_pos rfl] at et
    simp_all [ei, et]
    exact fin_new (under_tup _ _)
  | false =>
    rw [if_neg Bool.false_ne_true] at et
    simp_all [ei, et]
    exact fin_new (under_tup _ _)

theorem tail_okL {pr : Heap} {n : RV} {l : RV} {us ws st : List Nat} (gs : WB 8 st) (g : WB 16 us) (gw : WB 16 ws) {wv sv : RV} (hw : LV wv ws) (hv : LV sv st) :
    tl_compress [some sv, some wv, some n, some l, some (.v (.obj pr.length)), none, none, none, none] (pr ++ [.lst (vNats us)]) = .rt (.v (.tup (vNats (outB st (mixB ws us))))) (pr ++ [.lst (vNats (mixB ws us))]) := by
  obtain ⟨y5, y6, y7, y8, e⟩ := rounds_ok (pr := pr) (v0 := sv) (v2 := n) (v3 := l) g gw hw
  have gm := mix_wb (w := ws) g
  generalize mixB ws us = m at *
  have ls := gs.1
  have lm := gm.1
  have ec : ∀ y7, eLc [7] (.nm 7) (iRng1 (eC (.int 8))) tYes c_compress_3 [some sv, some wv, some n, some l, some (.v (.obj pr.length)), y5, y6, y7, y8] (pr ++ [.lst (vNats m)]) = .ok (.own (vNats (outB st m))) (pr ++ [.lst (vNats m)]) := fun y7 => by
    unfold outB
    refine lc_nat (own := [7]) (s := 7) (it := iRng1 (eC (.int 8))) (e := c_compress_3) (r := [some sv, some wv, some n, some l, some (.v (.obj pr.length)), y5, y6, y7, y8]) (h := pr ++ [.lst (vNats m)]) (h1 := pr ++ [.lst (vNats m)]) (dep := []) (ns := List.range' 0 8) (fun k => st.getD k 0 ^^^ m.getD k 0 ^^^ m.getD (k + 8) 0) (by simp_all []) (by decide) fun i hi => ?_
    have := List.mem_range'_1.mp hi
    unfold c_compress_3
    rcases hv with z | z | z <;> subst z <;> simp_all []
  have lo := (outB_wb gs gm).1
  generalize outB st m = o at *
  unfold tl_compress
  simp_all [-q_sFor, e, ec]
theorem compress_okL {h : Heap} {n : Nat} {l : Bool} {ws st : List Nat} (gs : WB 8 st) (gw : WB 16 ws) {wv sv : RV} (hw : LV wv ws) (hv : LV sv st) (hn : n < 2 ^ 200) :
    f_compress [sv, wv, .v (.int (n : Int)), .v (.bool l)] h = .ok (.v (.tup (vNats (CB st ws n l)))) h := by
  have g0 := startB_wb (n := n) gs
  have gl := lastB_wb (l := l) g0
  have et := fun l => tail_okL (pr := h) (n := .v (.int (n : Int))) (l := l) gs gl gw hw hv
  have ls := gs.1
  have li := IVB_wb.1
  have ei := fun h => initial_okB (h := h)
  unfold f_compress
  rw [mkFn_eq, b_compress_eq]
  unfold CB
  generalize outB st (mixB ws (lastB (startB st n) l)) = o at *
  generalize mixB ws (lastB (startB st n) l) = m at *
  unfold k_MASK_blake
  unfold startB at et
  unfold lastB at et
  simp only [and_64] at et
  generalize IVB = iv at *
  cases l with
  | true =>
    rw [if_pos rfl] at et
    rcases hv with z | z | z <;> subst z <;> (simp_all [ei, et]; exact fin_new (under_tup _ _))
  | false =>
    rw [if_neg Bool.false_ne_true] at et
    rcases hv with z | z | z <;> subst z <;> (simp_all [ei, et]; exact fin_new (under_tup _ _))

/-! ### the law's way to compress -/
theorem turned_ok {h : Heap} {w k : Nat} (hw : w < 2 ^ 64) (hk : k ≤ 64) : f__law_turned [.v (.int (w : Int)), .v (.int (k : Int))] h = .ok (.v (.int (rotB w k : Nat))) h := by
  unfold f__law_turned rotB
  rw [mkFn_eq]
  unfold b__law_turned
  simp_all []
def halfB (us : List Nat) (a b c d x f s : Nat) : List Nat := rolB (addB (rolB (addB3 us a b x) d a f) c d) b c s
theorem half_wb {n : Nat} {us : List Nat} (g : WB n us) {a b c d x f s : Nat} : WB n (halfB us a b c d x f s) := g.add3.rol.add.rol
theorem quart_half {us : List Nat} {a b c d x y : Nat} : quartB us a b c d x y = halfB (halfB us a b c d x 32 24) a b c d y 16 63 := rfl
section
variable {pr : Heap} {us : List Nat} {a b c d x y m f s : Nat} {v1 : RV}
abbrev envH (pr : Heap) (v1 : RV) (x y a b c d m f s : Nat) : Env := [some (.v (.obj pr.length)), some v1, some (.v (.int (x : Int))), some (.v (.int (y : Int))), some (.v (.int (a : Int))), some (.v (.int (b : Int))), some (.v (.int (c : Int))), some (.v (.int (d : Int))), some (.v (.int (m : Int))), some (.v (.int (f : Int))), some (.v (.int (s : Int)))]
theorem hs1 (g : WB 16 us) (ha : a < 16) (hb : b < 16) : sSetHp (eVar 0) (eVar 4) (e2 fAnd (e2 fAdd (e2 fAdd (e2 fIx (eVar 0) (eVar 4)) (e2 fIx (eVar 0) (eVar 5))) (eVar 8)) (eC (.int 18446744073709551615))) (envH pr v1 x y a b c d m f s) (pr ++ [.lst (vNats us)]) = .nx (envH pr v1 x y a b c d m f s) (pr ++ [.lst (vNats (addB3 us a b m))]) := by
  have l := g.1
  unfold addB3
  simp_all []
theorem hs3 (g : WB 16 us) (hc : c < 16) (hd : d < 16) : sSetHp (eVar 0) (eVar 6) (e2 fAnd (e2 fAdd (e2 fIx (eVar 0) (eVar 6)) (e2 fIx (eVar 0) (eVar 7))) (eC (.int 18446744073709551615))) (envH pr v1 x y a b c d m f s) (pr ++ [.lst (vNats us)]) = .nx (envH pr v1 x y a b c d m f s) (pr ++ [.lst (vNats (addB us c d))]) := by
  have l := g.1
  unfold addB
  simp_all []
theorem hs2 (g : WB 16 us) (ha : a < 16) (hd : d < 16) (hf : f ≤ 64) : sSetHp (eVar 0) (eVar 7) (eCall f__law_turned (aCons (e2 fXor (e2 fIx (eVar 0) (eVar 7)) (e2 fIx (eVar 0) (eVar 4))) (aCons (eVar 9) (aNil)))) (envH pr v1 x y a b c d m f s) (pr ++ [.lst (vNats us)]) = .nx (envH pr v1 x y a b c d m f s) (pr ++ [.lst (vNats (rolB us d a f))]) := by
  have l := g.1
  have t := fun h => turned_ok (h := h) (w := us.getD d 0 ^^^ us.getD a 0) (k := f) (Nat.xor_lt_two_pow (g.at d) (g.at a)) hf
  unfold rolB
  simp_all [t]
theorem hs4 (g : WB 16 us) (hb : b < 16) (hc : c < 16) (hs : s ≤ 64) : sSetHp (eVar 0) (eVar 5) (eCall f__law_turned (aCons (e2 fXor (e2 fIx (eVar 0) (eVar 5)) (e2 fIx (eVar 0) (eVar 6))) (aCons (eVar 10) (aNil)))) (envH pr v1 x y a b c d m f s) (pr ++ [.lst (vNats us)]) = .nx (envH pr v1 x y a b c d m f s) (pr ++ [.lst (vNats (rolB us b c s))]) := by
  have l := g.1
  have t := fun h => turned_ok (h := h) (w := us.getD b 0 ^^^ us.getD c 0) (k := s) (Nat.xor_lt_two_pow (g.at b) (g.at c)) hs
  unfold rolB
  simp_all [t]
theorem half_ok (g : WB 16 us) (ha : a < 16) (hb : b < 16) (hc : c < 16) (hd : d < 16) (hf : f ≤ 64) (hs : s ≤ 64) : l__law_quarter_1 (envH pr v1 x y a b c d m f s) (pr ++ [.lst (vNats us)]) = .nx (envH pr v1 x y a b c d m f s) (pr ++ [.lst (vNats (halfB us a b c d m f s))]) := by
  have s1 := hs1 (pr := pr) (v1 := v1) (x := x) (y := y) (c := c) (d := d) (m := m) (f := f) (s := s) g ha hb
  have g1 := g.add3 (t := a) (f := b) (x := m)
  have s2 := hs2 (pr := pr) (v1 := v1) (x := x) (y := y) (b := b) (c := c) (m := m) (f := f) (s := s) g1 ha hd hf
  have g2 := g1.rol (t := d) (f := a) (k := f)
  have s3 := hs3 (pr := pr) (v1 := v1) (x := x) (y := y) (a := a) (b := b) (m := m) (f := f) (s := s) g2 hc hd
  have g3 := g2.add (t := c) (f := d)
  have s4 := hs4 (pr := pr) (v1 := v1) (x := x) (y := y) (a := a) (d := d) (m := m) (f := f) (s := s) g3 hb hc hs
  unfold l__law_quarter_1 halfB
  unfold envH at s1 s2 s3 s4 ⊢
  simp_all [-q_sSetHp, s1, s2, s3, s4]
theorem lquarter_ok (g : WB 16 us) (ha : a < 16) (hb : b < 16) (hc : c < 16) (hd : d < 16) :
    f__law_quarter [.v (.obj pr.length), .v (.tup [.int (a : Int), .int (b : Int), .int (c : Int), .int (d : Int)]), .v (.int (x : Int)), .v (.int (y : Int))] (pr ++ [.lst (vNats us)]) = .ok (.v .none) (pr ++ [.lst (vNats (quartB us a b c d x y))]) := by
  obtain ⟨r2, h2, e, ⟨y8, y9, y10, rfl⟩, rfl, _⟩ := for_ok (g := .tp [8, 9, 10]) (it := iSeq (eTup (aCons (eTup (aCons (eVar 2) (aCons (eC (.int 32)) (aCons (eC (.int 24)) (aNil))))) (aCons (eTup (aCons (eVar 3) (aCons (eC (.int 16)) (aCons (eC (.int 63)) (aNil))))) (aNil))))) (b := l__law_quarter_1)
    (r := [some (.v (.obj pr.length)), some (.v (.tup [.int (a : Int), .int (b : Int), .int (c : Int), .int (d : Int)])), some (.v (.int (x : Int))), some (.v (.int (y : Int))), some (.v (.int (a : Int))), some (.v (.int (b : Int))), some (.v (.int (c : Int))), some (.v (.int (d : Int))), none, none, none]) (h := pr ++ [.lst (vNats us)]) (h1 := pr ++ [.lst (vNats us)])
    (xs := [.tup [.int (x : Int), .int ((32 : Nat) : Int), .int ((24 : Nat) : Int)], .tup [.int (y : Int), .int ((16 : Nat) : Int), .int ((63 : Nat) : Int)]])
    (fun k r h => (∃ y8 y9 y10, r = [some (.v (.obj pr.length)), some (.v (.tup [.int (a : Int), .int (b : Int), .int (c : Int), .int (d : Int)])), some (.v (.int (x : Int))), some (.v (.int (y : Int))), some (.v (.int (a : Int))), some (.v (.int (b : Int))), some (.v (.int (c : Int))), some (.v (.int (d : Int))), y8, y9, y10]) ∧
      h = pr ++ [.lst (vNats (if k = 0 then us else if k = 1 then halfB us a b c d x 32 24 else halfB (halfB us a b c d x 32 24) a b c d y 16 63))] ∧ k ≤ 2)
    (by simp_all []) ⟨⟨none, none, none, rfl⟩, rfl, by omega⟩ fun k v r h hk ⟨⟨y8, y9, y10, q1⟩, q2, q3⟩ => by
      subst q1 q2
      have hk2 : k < 2 := (List.getElem?_eq_some_iff.mp hk).1
      obtain rfl | rfl : k = 0 ∨ k = 1 := by omega
      · cases hk
        have e := half_ok (pr := pr) (v1 := .v (.tup [.int (a : Int), .int (b : Int), .int (c : Int), .int (d : Int)])) (x := x) (y := y) (m := x) (f := 32) (s := 24) g ha hb hc hd (by decide) (by decide)
        exact ⟨_, rfl, _, _, .inl e, ⟨_, _, _, rfl⟩, rfl, by omega⟩
      · cases hk
        have e := half_ok (pr := pr) (v1 := .v (.tup [.int (a : Int), .int (b : Int), .int (c : Int), .int (d : Int)])) (x := x) (y := y) (m := y) (f := 16) (s := 63) (half_wb g (a := a) (b := b) (c := c) (d := d) (x := x) (f := 32) (s := 24)) ha hb hc hd (by decide) (by decide)
        exact ⟨_, rfl, _, _, .inl e, ⟨_, _, _, rfl⟩, rfl, by omega⟩
  have e : sFor (.tp [8, 9, 10]) (iSeq (eTup (aCons (eTup (aCons (eVar 2) (aCons (eC (.int 32)) (aCons (eC (.int 24)) (aNil))))) (aCons (eTup (aCons (eVar 3) (aCons (eC (.int 16)) (aCons (eC (.int 63)) (aNil))))) (aNil))))) l__law_quarter_1 _ _ = .nx _ (pr ++ [.lst (vNats (quartB us a b c d x y))]) := e
  unfold f__law_quarter
  rw [mkFn_eq]
  unfold b__law_quarter
  generalize quartB us a b c d x y = q at *
  simp_all [-q_sFor, e]
end
/-! ### roots by halves -/
theorem sq_uniq {n a b : Nat} (a1 : a * a ≤ n) (a2 : n < (a + 1) * (a + 1)) (b1 : b * b ≤ n) (b2 : n < (b + 1) * (b + 1)) : a = b := by
  refine Nat.le_antisymm (Nat.le_of_not_lt fun h => ?_) (Nat.le_of_not_lt fun h => ?_)
  · have := Nat.mul_self_le_mul_self (show b + 1 ≤ a from h)
    omega
  · have := Nat.mul_self_le_mul_self (show a + 1 ≤ b from h)
    omega
theorem isq_ok {p : Nat} (hp : p ∈ PR8) : PySem.Float64.isqrt (p * 2 ^ 128) * PySem.Float64.isqrt (p * 2 ^ 128) ≤ p * 2 ^ 128 ∧ p * 2 ^ 128 < (PySem.Float64.isqrt (p * 2 ^ 128) + 1) * (PySem.Float64.isqrt (p * 2 ^ 128) + 1) ∧ p < 32 := by
  have : ∀ p, p ∈ PR8 → PySem.Float64.isqrt (p * 2 ^ 128) * PySem.Float64.isqrt (p * 2 ^ 128) ≤ p * 2 ^ 128 ∧ p * 2 ^ 128 < (PySem.Float64.isqrt (p * 2 ^ 128) + 1) * (PySem.Float64.isqrt (p * 2 ^ 128) + 1) ∧ p < 32 := by decide +kernel
  exact this p hp
theorem lroot_ok {h : Heap} {p : Nat} (hp : p ∈ PR8) : f__law_root [.v (.int (p : Int)), .v (.int ((2 : Nat) : Int))] h = .ok (.v (.int (rootW p : Nat))) h := by
  obtain ⟨i1, i2, i3⟩ := isq_ok hp
  obtain ⟨N, eN⟩ : ∃ N, p * 2 ^ 128 = N := ⟨_, rfl⟩
  rw [eN] at i1 i2
  have hN : N < 2 ^ 133 := by rw [← eN]; omega
  have eN2 : p * 2 ^ (64 * 2) = N := eN
  obtain ⟨r2, h2, e, lo, y4, y5, _, l1, l2, rfl, rfl⟩ := wh_fuel (c := tB (e2 fGt (e2 fSub (eVar 3) (eVar 2)) (eC (.int 1)))) (b := l__law_root_1)
    (fun k r h' => ∃ lo y4 y5, k ≤ 72 ∧ lo * lo ≤ N ∧ N < (lo + 2 ^ k) * (lo + 2 ^ k) ∧ r = [some (.v (.int (p : Int))), some (.v (.int ((2 : Nat) : Int))), some (.v (.int (lo : Int))), some (.v (.int ((lo + 2 ^ k : Nat) : Int))), y4, y5] ∧ h' = h)
    (fun r h' ⟨lo, y4, y5, _, l1, l2, q1, q2⟩ => by
      subst q1 q2
      have c : ¬ 1 < lo + 1 - lo := by omega
      rw [Nat.pow_zero]
      clear l1 l2
      simp_all [c])
    (fun k r h' ⟨lo, y4, y5, hk, l1, l2, q1, q2⟩ => by
      subst q1 q2
      obtain ⟨D, eD⟩ : ∃ D, 2 ^ k = D := ⟨_, rfl⟩
      have hD : 0 < D := by rw [← eD]; exact Nat.two_pow_pos _
      have hD2 : D ≤ 2 ^ 72 := by rw [← eD]; exact Nat.pow_le_pow_right (by decide) (by omega)
      have e2D : 2 ^ (k + 1) = 2 * D := by rw [Nat.pow_succ, eD, Nat.mul_comm]
      rw [e2D] at l2 ⊢
      have hlo : lo < 2 ^ 67 := Nat.lt_of_not_le fun z => by
        have := Nat.mul_self_le_mul_self z
        omega
      obtain ⟨M, eM⟩ : ∃ M, lo + D = M := ⟨_, rfl⟩
      have hM : M < 2 ^ 73 := by omega
      have hMM : M * M < 2 ^ 200 := Nat.lt_of_le_of_lt (Nat.mul_self_le_mul_self (Nat.le_of_lt hM)) (by decide)
      have hmid : (lo + (lo + 2 * D)) / 2 = M := by omega
      have c : 1 < lo + 2 * D - lo := by omega
      have eh : lo + 2 * D = M + D := by omega
      clear i1 i2
      refine ⟨by
        clear l1 l2 hMM
        simp_all [c], ?_⟩
      rw [eh] at l2 hmid ⊢
      by_cases t : M * M ≤ N
      · refine ⟨[some (.v (.int (p : Int))), some (.v (.int ((2 : Nat) : Int))), some (.v (.int (M : Int))), some (.v (.int ((M + 2 ^ k : Nat) : Int))), some (.v (.int (M : Int))), some (.v (.int ((1 : Nat) : Int)))], h', ?_, M, _, _, by omega, t, by rw [eD]; exact l2, rfl, rfl⟩
        rw [eD]
        clear l1 l2
        unfold l__law_root_1
        have dt : decide (M * M ≤ N) = true := decide_eq_true t
        have dt1 : decide (M * M * 1 ≤ N) = true := by rw [Nat.mul_one]; exact dt
        clear t
        simp_all [hmid, eN2, eN, dt, dt1, Nat.mul_one]
      · refine ⟨[some (.v (.int (p : Int))), some (.v (.int ((2 : Nat) : Int))), some (.v (.int (lo : Int))), some (.v (.int ((lo + 2 ^ k : Nat) : Int))), some (.v (.int (M : Int))), some (.v (.int ((1 : Nat) : Int)))], h', ?_, lo, _, _, by omega, l1, by rw [eD, eM]; omega, rfl, rfl⟩
        rw [eD, eM]
        clear l1 l2
        unfold l__law_root_1
        have dt : decide (M * M ≤ N) = false := decide_eq_false t
        have dt1 : decide (M * M * 1 ≤ N) = false := by rw [Nat.mul_one]; exact dt
        clear t
        simp_all [hmid, eN2, eN, dt, dt1, Nat.mul_one]) (k := 72) (r := [some (.v (.int (p : Int))), some (.v (.int ((2 : Nat) : Int))), some (.v (.int ((0 : Nat) : Int))), some (.v (.int ((0 + 2 ^ 72 : Nat) : Int))), none, none]) (h := h) (by decide) ⟨0, none, none, by omega, by omega, by omega, rfl, rfl⟩
  rw [Nat.pow_zero] at l2
  have el : lo = PySem.Float64.isqrt (p * 2 ^ 128) := by
    rw [eN]
    exact sq_uniq l1 l2 i1 i2
  have e72 : (0 + 2 ^ 72 : Nat) = 4722366482869645213696 := by decide
  rw [e72] at e
  clear l1 l2 i1 i2 hN
  unfold f__law_root rootW
  rw [mkFn_eq, ← el]
  unfold b__law_root
  rw [Nat.pow_zero] at e
  simp_all [-q_sWhile, e, Nat.one_mul, Nat.reducePow]

theorem linitial_ok {h : Heap} : f__law_initial [] h = .ok (.own (vNats IVB)) h := by
  have e : eLc [0] (.nm 0) (iSeqE (eTup (aCons (eC (.int 2)) (aCons (eC (.int 3)) (aCons (eC (.int 5)) (aCons (eC (.int 7)) (aCons (eC (.int 11)) (aCons (eC (.int 13)) (aCons (eC (.int 17)) (aCons (eC (.int 19)) (aNil))))))))))) tYes c__law_initial_1 [none] h = .ok (.own (vNats IVB)) h := by
    refine lc_nat (own := [0]) (s := 0) (it := iSeqE (eTup (aCons (eC (.int 2)) (aCons (eC (.int 3)) (aCons (eC (.int 5)) (aCons (eC (.int 7)) (aCons (eC (.int 11)) (aCons (eC (.int 13)) (aCons (eC (.int 17)) (aCons (eC (.int 19)) (aNil))))))))))) (e := c__law_initial_1) (r := [none]) (h := h) (h1 := h) (dep := []) (ns := PR8) rootW rfl (by decide) fun i hi => ?_
    have er := fun h => lroot_ok (h := h) hi
    unfold c__law_initial_1
    simp_all [er]
  unfold f__law_initial
  rw [mkFn_eq]
  unfold b__law_initial
  generalize IVB = Z at *
  simp_all [e]
def rowz : List Str := ["0 1 2 3 4 5 6 7 8 9 10 11 12 13 14 15", "14 10 4 8 9 15 13 6 1 12 0 2 11 7 5 3", "11 8 12 0 5 2 15 13 10 14 3 6 7 1 9 4", "7 9 3 1 13 12 11 14 2 6 5 10 4 0 15 8", "9 0 5 7 2 4 10 15 14 1 11 12 6 8 3 13", "2 12 6 10 0 11 8 3 4 13 7 5 15 14 1 9", "12 5 1 15 14 13 4 10 0 7 6 3 9 2 8 11", "13 11 7 14 12 1 3 9 5 0 15 4 8 6 2 10", "6 15 14 9 11 3 0 8 12 2 13 7 1 4 10 5", "10 2 8 4 7 6 1 5 15 11 9 14 3 12 13 0", "0 1 2 3 4 5 6 7 8 9 10 11 12 13 14 15", "14 10 4 8 9 15 13 6 1 12 0 2 11 7 5 3"]
def ordL : List (List Nat) := (List.range' 0 12).map fun n => orB.getD (n % 10) []
def ordV : List Val := ordL.map fun o => .ro (vNats o)
theorem row_all {h : Heap} {r0 : Option RV} {k : Nat} {x : Val} (hk : (vStrs rowz)[k]? = some x) : c__law_orders_2 [r0, some (.v x), none] h = .ok (.own (vNats (orB.getD (k % 10) []))) h ∧ k < 12 ∧ ordV.take (k + 1) = ordV.take k ++ [.ro (vNats (orB.getD (k % 10) []))] := by
  have hl : k < 12 := (List.getElem?_eq_some_iff.mp hk).1
  obtain rfl | rfl | rfl | rfl | rfl | rfl | rfl | rfl | rfl | rfl | rfl | rfl : k = 0 ∨ k = 1 ∨ k = 2 ∨ k = 3 ∨ k = 4 ∨ k = 5 ∨ k = 6 ∨ k = 7 ∨ k = 8 ∨ k = 9 ∨ k = 10 ∨ k = 11 := by omega
  all_goals (cases hk; exact ⟨by kernel_rfl, by decide, rfl⟩)
theorem lorders_ok {h : Heap} : f__law_orders [] h = .ok (.own ordV) h := by
  obtain ⟨acc, h2, e, eh, eacc⟩ := lc_ok (own := [1]) (g := .nm 1) (it := iSeqE (eVar 0)) (e := c__law_orders_2) (r := [some (.v (.ro (vStrs rowz))), none, none]) (h := h) (h1 := h) (xs := vStrs rowz) (dep := []) (fun k acc h' => h' = h ∧ acc = ordV.take k) (by simp_all []) (by decide) (fun i acc h' p => by rw [p.1]; exact Same.refl _ _) ⟨rfl, rfl⟩ fun k x acc h' hk ⟨q1, q2⟩ => by
    subst q1 q2
    obtain ⟨e1, e2, e3⟩ := row_all (h := h') (r0 := some (.v (.ro (vStrs rowz)))) hk
    exact ⟨_, rfl, _, _, _, e1, rfl, rfl, e3.symm⟩
  have e0 : ordV.take (vStrs rowz).length = ordV := rfl
  have tk : ∀ (a b : Val) (l : List Val), List.take 2 (a :: b :: l) = [a, b] := fun _ _ _ => rfl
  rw [eacc, eh, e0] at e
  have e : eLc [1] (.nm 1) (iSeqE (eVar 0)) tYes c__law_orders_2 [some (.v (.ro [.str "0 1 2 3 4 5 6 7 8 9 10 11 12 13 14 15", .str "14 10 4 8 9 15 13 6 1 12 0 2 11 7 5 3", .str "11 8 12 0 5 2 15 13 10 14 3 6 7 1 9 4", .str "7 9 3 1 13 12 11 14 2 6 5 10 4 0 15 8", .str "9 0 5 7 2 4 10 15 14 1 11 12 6 8 3 13", .str "2 12 6 10 0 11 8 3 4 13 7 5 15 14 1 9", .str "12 5 1 15 14 13 4 10 0 7 6 3 9 2 8 11", .str "13 11 7 14 12 1 3 9 5 0 15 4 8 6 2 10", .str "6 15 14 9 11 3 0 8 12 2 13 7 1 4 10 5", .str "10 2 8 4 7 6 1 5 15 11 9 14 3 12 13 0", .str "0 1 2 3 4 5 6 7 8 9 10 11 12 13 14 15", .str "14 10 4 8 9 15 13 6 1 12 0 2 11 7 5 3"])), none, none] h = .ok (.own ordV) h := e
  unfold f__law_orders
  rw [mkFn_eq]
  unfold b__law_orders
  generalize ordV = Z at *
  simp_all [e, tk]
abbrev plV : List Val := [.tup [.int ((0 : Nat) : Int), .int ((4 : Nat) : Int), .int ((8 : Nat) : Int), .int ((12 : Nat) : Int)], .tup [.int ((1 : Nat) : Int), .int ((5 : Nat) : Int), .int ((9 : Nat) : Int), .int ((13 : Nat) : Int)], .tup [.int ((2 : Nat) : Int), .int ((6 : Nat) : Int), .int ((10 : Nat) : Int), .int ((14 : Nat) : Int)], .tup [.int ((3 : Nat) : Int), .int ((7 : Nat) : Int), .int ((11 : Nat) : Int), .int ((15 : Nat) : Int)], .tup [.int ((0 : Nat) : Int), .int ((5 : Nat) : Int), .int ((10 : Nat) : Int), .int ((15 : Nat) : Int)], .tup [.int ((1 : Nat) : Int), .int ((6 : Nat) : Int), .int ((11 : Nat) : Int), .int ((12 : Nat) : Int)], .tup [.int ((2 : Nat) : Int), .int ((7 : Nat) : Int), .int ((8 : Nat) : Int), .int ((13 : Nat) : Int)], .tup [.int ((3 : Nat) : Int), .int ((4 : Nat) : Int), .int ((9 : Nat) : Int), .int ((14 : Nat) : Int)]]
theorem plV_at {h : Heap} {k : Nat} (hk : k < 8) : fIx h (.v (.ro plV)) (.v (.int (k : Int))) = some (.v (.tup [.int (plc k 0 : Nat), .int (plc k 1 : Nat), .int (plc k 2 : Nat), .int (plc k 3 : Nat)])) := by
  obtain rfl | rfl | rfl | rfl | rfl | rfl | rfl | rfl : k = 0 ∨ k = 1 ∨ k = 2 ∨ k = 3 ∨ k = 4 ∨ k = 5 ∨ k = 6 ∨ k = 7 := by omega
  all_goals rfl
theorem lround_ok {pr : Heap} {v0 v2 v3 : RV} {y7 : Option RV} {P : List Val} (hP : P = plV) {us ws o : List Nat} (g : WB 16 us) (gw : WB 16 ws) (lo : o.length = 16) (ho : ∀ j, j < 16 → o.getD j 0 < 16) :
    ∃ y7, l__law_compressed_2 [some v0, some (.v (.ro (vNats ws))), some v2, some v3, some (.v (.obj pr.length)), some (.v (.ro P)), some (.v (.ro (vNats o))), y7] (pr ++ [.lst (vNats us)]) =
      .nx [some v0, some (.v (.ro (vNats ws))), some v2, some v3, some (.v (.obj pr.length)), some (.v (.ro P)), some (.v (.ro (vNats o))), y7] (pr ++ [.lst (vNats ((List.range' 0 8).foldl (stepB ws o) us))]) := by
  obtain ⟨r2, h2, e, y7, rfl, rfl, _⟩ := for_rng (s := 7) (n := 8) (it := iRng1 (eC (.int 8))) (b := l__law_compressed_1) (r := [some v0, some (.v (.ro (vNats ws))), some v2, some v3, some (.v (.obj pr.length)), some (.v (.ro P)), some (.v (.ro (vNats o))), y7]) (h := pr ++ [.lst (vNats us)]) (h1 := pr ++ [.lst (vNats us)])
    (fun k r h => ∃ y7, r = [some v0, some (.v (.ro (vNats ws))), some v2, some v3, some (.v (.obj pr.length)), some (.v (.ro P)), some (.v (.ro (vNats o))), y7] ∧ h = pr ++ [.lst (vNats ((List.range' 0 k).foldl (stepB ws o) us))] ∧ WB 16 ((List.range' 0 k).foldl (stepB ws o) us))
    (by simp_all []) ⟨y7, rfl, rfl, g⟩ fun k r h hk8 ⟨y7, q1, q2, q3⟩ => by
      subst q1 q2
      have ef : (List.range' 0 (k + 1)).foldl (stepB ws o) us = stepB ws o ((List.range' 0 k).foldl (stepB ws o) us) k := by
        rw [List.range'_concat, List.foldl_append, Nat.zero_add, Nat.one_mul, List.foldl_cons, List.foldl_nil]
      rw [ef]
      generalize (List.range' 0 k).foldl (stepB ws o) us = u at *
      have a0 := plc_lt hk8 (i := 0) (by decide)
      have a1 := plc_lt hk8 (i := 1) (by decide)
      have a2 := plc_lt hk8 (i := 2) (by decide)
      have a3 := plc_lt hk8 (i := 3) (by decide)
      have b0 := ho (2 * k) (by omega)
      have b1 := ho (2 * k + 1) (by omega)
      have lw := gw.1
      have eq := lquarter_ok (pr := pr) (x := ws.getD (o.getD (2 * k) 0) 0) (y := ws.getD (o.getD (2 * k + 1) 0) 0) q3 a0 a1 a2 a3
      have ep : ∀ h, fIx h (.v (.ro P)) (.v (.int (k : Int))) = some (.v (.tup [.int (plc k 0 : Nat), .int (plc k 1 : Nat), .int (plc k 2 : Nat), .int (plc k 3 : Nat)])) := fun h => by rw [hP]; exact plV_at hk8
      refine ⟨[some v0, some (.v (.ro (vNats ws))), some v2, some v3, some (.v (.obj pr.length)), some (.v (.ro P)), some (.v (.ro (vNats o))), some (.v (.int (k : Int)))], _, ?_, _, rfl, rfl, stepB_wb q3⟩
      unfold l__law_compressed_1 stepB
      generalize plc k 0 = p0 at *
      generalize plc k 1 = p1 at *
      generalize plc k 2 = p2 at *
      generalize plc k 3 = p3 at *
      simp_all [ep, eq]
  exact ⟨y7, e⟩
theorem lrounds_ok {pr : Heap} {v0 v2 v3 : RV} {P : List Val} (hP : P = plV) {us ws : List Nat} (g : WB 16 us) (gw : WB 16 ws) :
    ∃ y6 y7, sFor (.nm 6) (iSeq (eCall f__law_orders aNil)) l__law_compressed_2 [some v0, some (.v (.ro (vNats ws))), some v2, some v3, some (.v (.obj pr.length)), some (.v (.ro P)), none, none] (pr ++ [.lst (vNats us)]) =
      .nx [some v0, some (.v (.ro (vNats ws))), some v2, some v3, some (.v (.obj pr.length)), some (.v (.ro P)), y6, y7] (pr ++ [.lst (vNats (mixB ws us))]) := by
  have eo := fun h => lorders_ok (h := h)
  have ea : ∀ k v, ordV[k]? = some v → k < 12 ∧ v = .ro (vNats (orB.getD (k % 10) [])) := fun k v hk => by
    have hl : k < 12 := (List.getElem?_eq_some_iff.mp hk).1
    refine ⟨hl, ?_⟩
    obtain rfl | rfl | rfl | rfl | rfl | rfl | rfl | rfl | rfl | rfl | rfl | rfl : k = 0 ∨ k = 1 ∨ k = 2 ∨ k = 3 ∨ k = 4 ∨ k = 5 ∨ k = 6 ∨ k = 7 ∨ k = 8 ∨ k = 9 ∨ k = 10 ∨ k = 11 := by omega
    all_goals exact (Option.some.inj hk).symm
  have el : ordV.length = 12 := rfl
  generalize ordV = O at *
  obtain ⟨r2, h2, e, y6, y7, rfl, rfl, _⟩ := for_ok (g := .nm 6) (it := iSeq (eCall f__law_orders aNil)) (b := l__law_compressed_2) (r := [some v0, some (.v (.ro (vNats ws))), some v2, some v3, some (.v (.obj pr.length)), some (.v (.ro P)), none, none]) (h := pr ++ [.lst (vNats us)]) (h1 := pr ++ [.lst (vNats us)]) (xs := O)
    (fun k r h => ∃ y6 y7, r = [some v0, some (.v (.ro (vNats ws))), some v2, some v3, some (.v (.obj pr.length)), some (.v (.ro P)), y6, y7] ∧ h = pr ++ [.lst (vNats ((List.range' 0 k).foldl (roundB ws) us))] ∧ WB 16 ((List.range' 0 k).foldl (roundB ws) us))
    (by simp_all [eo]) ⟨none, none, rfl, rfl, g⟩ fun k v r h hk ⟨y6, y7, q1, q2, q3⟩ => by
      subst q1 q2
      obtain ⟨hk2, rfl⟩ := ea k v hk
      have ef : (List.range' 0 (k + 1)).foldl (roundB ws) us = roundB ws ((List.range' 0 k).foldl (roundB ws) us) k := by
        rw [List.range'_concat, List.foldl_append, Nat.zero_add, Nat.one_mul, List.foldl_cons, List.foldl_nil]
      rw [ef]
      generalize (List.range' 0 k).foldl (roundB ws) us = u at *
      have hn : k % 10 < 10 := Nat.mod_lt _ (by decide)
      obtain ⟨z7, er⟩ := lround_ok (pr := pr) (v0 := v0) (v2 := v2) (v3 := v3) (y7 := y7) hP q3 gw (orB_ok hn).1 (orB_ok hn).2
      exact ⟨_, rfl, _, _, .inl er, _, _, rfl, rfl, round_wb q3⟩
  rw [el] at e
  exact ⟨y6, y7, e⟩
noncomputable def tl__law_compressed : S := sCons (sFor (.nm 6) (iSeq (eCall f__law_orders aNil)) l__law_compressed_2) (sRet (e1 fTuple (eLc [7] (.nm 7) (iRng1 (eC (.int 8))) (tYes) c__law_compressed_3)))
theorem b__law_compressed_eq : b__law_compressed = sCons (sHeap 4 (e2 fAdd (e1 fList (eVar 0)) (eCall f__law_initial aNil))) (sCons (sSetHp (eVar 4) (eC (.int 12)) (e2 fXor (e2 fIx (eVar 4) (eC (.int 12))) (e2 fAnd (eVar 2) (eC (.int 18446744073709551615))))) (sCons (sSetHp (eVar 4) (eC (.int 13)) (e2 fXor (e2 fIx (eVar 4) (eC (.int 13))) (e2 fAnd (e2 fShr (eVar 2) (eC (.int 64))) (eC (.int 18446744073709551615))))) (sCons (sIf (tTru (eVar 3)) (sSetHp (eVar 4) (eC (.int 14)) (e2 fXor (e2 fIx (eVar 4) (eC (.int 14))) (eC (.int 18446744073709551615)))) (sNil)) (sCons (sSet 5 (eLst (aCons (eTup (aCons (eC (.int 0)) (aCons (eC (.int 4)) (aCons (eC (.int 8)) (aCons (eC (.int 12)) (aNil)))))) (aCons (eTup (aCons (eC (.int 1)) (aCons (eC (.int 5)) (aCons (eC (.int 9)) (aCons (eC (.int 13)) (aNil)))))) (aCons (eTup (aCons (eC (.int 2)) (aCons (eC (.int 6)) (aCons (eC (.int 10)) (aCons (eC (.int 14)) (aNil)))))) (aCons (eTup (aCons (eC (.int 3)) (aCons (eC (.int 7)) (aCons (eC (.int 11)) (aCons (eC (.int 15)) (aNil)))))) (aCons (eTup (aCons (eC (.int 0)) (aCons (eC (.int 5)) (aCons (eC (.int 10)) (aCons (eC (.int 15)) (aNil)))))) (aCons (eTup (aCons (eC (.int 1)) (aCons (eC (.int 6)) (aCons (eC (.int 11)) (aCons (eC (.int 12)) (aNil)))))) (aCons (eTup (aCons (eC (.int 2)) (aCons (eC (.int 7)) (aCons (eC (.int 8)) (aCons (eC (.int 13)) (aNil)))))) (aCons (eTup (aCons (eC (.int 3)) (aCons (eC (.int 4)) (aCons (eC (.int 9)) (aCons (eC (.int 14)) (aNil)))))) (aNil))))))))))) (tl__law_compressed))))) := rfl
theorem ltail_ok {pr : Heap} {n : RV} {l : RV} {us ws st : List Nat} {P : List Val} (hP : P = plV) (gs : WB 8 st) (g : WB 16 us) (gw : WB 16 ws) :
    tl__law_compressed [some (.v (.ro (vNats st))), some (.v (.ro (vNats ws))), some n, some l, some (.v (.obj pr.length)), some (.v (.ro P)), none, none] (pr ++ [.lst (vNats us)]) = .rt (.v (.tup (vNats (outB st (mixB ws us))))) (pr ++ [.lst (vNats (mixB ws us))]) := by
  obtain ⟨y6, y7, e⟩ := lrounds_ok (pr := pr) (v0 := .v (.ro (vNats st))) (v2 := n) (v3 := l) hP g gw
  have gm := mix_wb (w := ws) g
  generalize mixB ws us = m at *
  have ls := gs.1
  have lm := gm.1
  have ec : eLc [7] (.nm 7) (iRng1 (eC (.int 8))) tYes c__law_compressed_3 [some (.v (.ro (vNats st))), some (.v (.ro (vNats ws))), some n, some l, some (.v (.obj pr.length)), some (.v (.ro P)), y6, y7] (pr ++ [.lst (vNats m)]) = .ok (.own (vNats (outB st m))) (pr ++ [.lst (vNats m)]) := by
    unfold outB
    refine lc_nat (own := [7]) (s := 7) (it := iRng1 (eC (.int 8))) (e := c__law_compressed_3) (r := [some (.v (.ro (vNats st))), some (.v (.ro (vNats ws))), some n, some l, some (.v (.obj pr.length)), some (.v (.ro P)), y6, y7]) (h := pr ++ [.lst (vNats m)]) (h1 := pr ++ [.lst (vNats m)]) (dep := []) (ns := List.range' 0 8) (fun k => st.getD k 0 ^^^ m.getD k 0 ^^^ m.getD (k + 8) 0) (by simp_all []) (by decide) fun i hi => ?_
    have := List.mem_range'_1.mp hi
    unfold c__law_compressed_3
    simp_all []
  have lo := (outB_wb gs gm).1
  generalize outB st m = o at *
  unfold tl__law_compressed
  simp_all [-q_sFor, e, ec]
theorem lcomp_ok {h : Heap} {n : Nat} {l : Bool} {ws st : List Nat} (gs : WB 8 st) (gw : WB 16 ws) (hn : n < 2 ^ 200) :
    f__law_compressed [.v (.ro (vNats st)), .v (.ro (vNats ws)), .v (.int (n : Int)), .v (.bool l)] h = .ok (.v (.tup (vNats (CB st ws n l)))) h := by
  have g0 := startB_wb (n := n) gs
  have gl := lastB_wb (l := l) g0
  have et := fun l => ltail_ok (pr := h) (n := .v (.int (n : Int))) (l := l) rfl gs gl gw
  have ls := gs.1
  have li := IVB_wb.1
  have ei := fun h => linitial_ok (h := h)
  unfold f__law_compressed
  rw [mkFn_eq, b__law_compressed_eq]
  unfold CB
  generalize outB st (mixB ws (lastB (startB st n) l)) = o at *
  generalize mixB ws (lastB (startB st n) l) = m at *
  unfold startB at et
  unfold lastB at et
  simp only [and_64] at et
  generalize IVB = iv at *
  cases l with
  | true =>
    rw [if_pos rfl] at et
    simp_all [ei, et]
    exact fin_new (under_tup _ _)
  | false =>
    rw [if_neg Bool.false_ne_true] at et
    simp_all [ei, et]
    exact fin_new (under_tup _ _)

/-! ### the law's draws -/
theorem fin_any2 {h h2 : Heap} {x : RV} : ∃ h', fin h (.rt x h2) = .ok x h' := ⟨_, rfl⟩
def Sm (ds : List Nat) : Prop := ∀ x, x ∈ ds → x < 2 ^ 32
theorem Sm.app {a b : List Nat} (x : Sm a) (y : Sm b) : Sm (a ++ b) := fun n hn => (List.mem_append.mp hn).elim (x n) (y n)
theorem Sm.one {x : Nat} (h : x < 2 ^ 32) : Sm [x] := fun n hn => by rw [List.mem_singleton.mp hn]; exact h
theorem dr1_ok {h : Heap} {r0 r2 y4 r5 : Option RV} {ds : List Nat} {m : Nat} (g : Sm ds) (hl : ds.length ≤ 10000) : ∃ (ds2 : List Nat) (m2 : Nat) (y4 : Option RV), Sm ds2 ∧ ds2.length ≤ ds.length + 60 ∧ sFor (.nm 4) (iRng1 (eC (.int 60))) l__law_draws_1 [r0, some (.own (vNats ds)), r2, some (.v (.int (m : Int))), y4, r5] h = .nx [r0, some (.own (vNats ds2)), r2, some (.v (.int (m2 : Int))), y4, r5] h := by
  obtain ⟨r', h', e, rfl, ds2, m2, y4, g2, l2, rfl⟩ := for_rng (s := 4) (n := 60) (it := iRng1 (eC (.int 60))) (b := l__law_draws_1) (r := [r0, some (.own (vNats ds)), r2, some (.v (.int (m : Int))), y4, r5]) (h := h) (h1 := h)
    (fun k r h' => h' = h ∧ ∃ (ds2 : List Nat) (m2 : Nat) (y4 : Option RV), Sm ds2 ∧ ds2.length ≤ ds.length + k ∧ r = [r0, some (.own (vNats ds2)), r2, some (.v (.int (m2 : Int))), y4, r5]) (by simp_all []) ⟨rfl, ds, m, y4, g, by omega, rfl⟩ fun k r h' hk ⟨q1, ds2, m2, y4, g2, l2, q2⟩ => by
      subst q1 q2
      by_cases c : 0 < m2
      · refine ⟨[r0, some (.own (vNats (ds2 ++ [m2 % 1009]))), r2, some (.v (.int ((m2 / 1009 : Nat) : Int))), some (.v (.int (k : Int))), r5], h', ?_, rfl, ds2 ++ [m2 % 1009], m2 / 1009, _, g2.app (Sm.one (by omega)), by rw [List.length_append]; show ds2.length + 1 ≤ _; omega, rfl⟩
        unfold l__law_draws_1
        simp_all [c, nats_app1]
      · refine ⟨[r0, some (.own (vNats ds2)), r2, some (.v (.int (m2 : Int))), some (.v (.int (k : Int))), r5], h', ?_, rfl, ds2, m2, _, g2, by omega, rfl⟩
        unfold l__law_draws_1
        simp_all [c]
  exact ⟨ds2, m2, y4, g2, l2, e⟩
theorem dr2_ok {h : Heap} {r0 r2 r3 y4 : Option RV} {ds : List Nat} {m : Nat} (g : Sm ds) (hl : ds.length ≤ 10000) (hm : m < 2 ^ 32) : ∃ (ds2 : List Nat) (y4 y5 : Option RV), Sm ds2 ∧ ds2.length ≤ ds.length + 7 ∧ sFor (.nm 4) (iRng1 (eC (.int 7))) l__law_draws_2 [r0, some (.own (vNats ds)), r2, r3, y4, some (.v (.int (m : Int)))] h = .nx [r0, some (.own (vNats ds2)), r2, r3, y4, y5] h := by
  obtain ⟨r', h', e, rfl, ds2, m2, y4, g2, l2, _, rfl⟩ := for_rng (s := 4) (n := 7) (it := iRng1 (eC (.int 7))) (b := l__law_draws_2) (r := [r0, some (.own (vNats ds)), r2, r3, y4, some (.v (.int (m : Int)))]) (h := h) (h1 := h)
    (fun k r h' => h' = h ∧ ∃ (ds2 : List Nat) (m2 : Nat) (y4 : Option RV), Sm ds2 ∧ ds2.length ≤ ds.length + k ∧ m2 < 2 ^ 32 ∧ r = [r0, some (.own (vNats ds2)), r2, r3, y4, some (.v (.int (m2 : Int)))]) (by simp_all []) ⟨rfl, ds, m, y4, g, by omega, hm, rfl⟩ fun k r h' hk ⟨q1, ds2, m2, y4, g2, l2, hm2, q2⟩ => by
      subst q1 q2
      have hmod : (m2 * 16807 + 69621 * k + 5) % 2147483629 < 2147483629 := Nat.mod_lt _ (by decide)
      refine ⟨[r0, some (.own (vNats (ds2 ++ [(m2 * 16807 + 69621 * k + 5) % 2147483629 / 1009]))), r2, r3, some (.v (.int (k : Int))), some (.v (.int (((m2 * 16807 + 69621 * k + 5) % 2147483629 : Nat) : Int)))], h', ?_, rfl, ds2 ++ [(m2 * 16807 + 69621 * k + 5) % 2147483629 / 1009], _, _, g2.app (Sm.one (by omega)), by rw [List.length_append]; show ds2.length + 1 ≤ _; omega, by omega, rfl⟩
      unfold l__law_draws_2
      simp_all [nats_app1]
  exact ⟨ds2, y4, _, g2, l2, e⟩
theorem draws_ok {h : Heap} {ns : List Int} (hns : ns.length ≤ 63) : ∃ ds : List Nat, f__law_draws [.v (.scr (vInts ns))] h = .ok (.own (vNats ds)) h ∧ Sm ds ∧ ds.length ≤ 3780 := by
  have li : (vInts ns).length = ns.length := List.length_map _
  have hi : iSeq (eSl (eVar 0) none (some (eC (.int 63)))) [some (.v (.scr (vInts ns))), some (.own []), none, none, none, none] h = .ok (vInts ns, []) h := by
    have e : (vInts ns).take 63 = vInts ns := List.take_of_length_le (by omega)
    generalize vInts ns = xs at *
    simp_all [e]
  obtain ⟨r2, e, ds, y2, y3, y4, y5, g, l, rfl⟩ := for_same (g := .nm 2) (it := iSeq (eSl (eVar 0) none (some (eC (.int 63))))) (b := l__law_draws_3) (r := [some (.v (.scr (vInts ns))), some (.own []), none, none, none, none]) (h := h) (h1 := h) (xs := vInts ns) (dep := [])
    (fun k r => ∃ (ds : List Nat) (y2 y3 y4 y5 : Option RV), Sm ds ∧ ds.length ≤ 60 * k ∧ r = [some (.v (.scr (vInts ns))), some (.own (vNats ds)), y2, y3, y4, y5]) hi ⟨[], none, none, none, none, (fun n hn => nomatch hn), Nat.zero_le _, rfl⟩ fun k v r hk ⟨ds, y2, y3, y4, y5, g, l, q⟩ => by
      subst q
      have hk63 : k < 63 := by have := (List.getElem?_eq_some_iff.mp hk).1; omega
      obtain ⟨i, _, rfl⟩ := List.mem_map.mp (List.mem_of_getElem? hk)
      have ab : ∀ h, fAbs h (.v (.int i)) = some (.v (.int ((i.natAbs : Nat) : Int))) := fun h => by
        rw [abs_i]
        refine congrArg (fun z => some (RV.v (.int z))) ?_
        split <;> omega
      generalize i.natAbs = m at *
      refine ⟨_, rfl, ?_⟩
      unfold l__law_draws_3
      by_cases c : 1000000000000000000 ≤ m
      · obtain ⟨ds2, m2, z4, g2, l2, e⟩ := dr1_ok (h := h) (r0 := some (.v (.scr (vInts ns)))) (r2 := some (.v (.int i))) (y4 := y4) (r5 := y5) (m := m) g (by omega)
        refine ⟨[some (.v (.scr (vInts ns))), some (.own (vNats ds2)), some (.v (.int i)), some (.v (.int (m2 : Int))), z4, y5], .inl ?_, ds2, _, _, _, _, g2, by omega, rfl⟩
        simp_all [-q_sFor, ab, c]
        exact e
      · have hm : (m * 48271 + 11) % 2147483647 < 2147483647 := Nat.mod_lt _ (by decide)
        obtain ⟨ds2, z4, z5, g2, l2, e⟩ := dr2_ok (h := h) (r0 := some (.v (.scr (vInts ns)))) (r2 := some (.v (.int i))) (r3 := some (.v (.int (m : Int)))) (y4 := y4) (m := (m * 48271 + 11) % 2147483647) g (by omega) (by omega)
        refine ⟨[some (.v (.scr (vInts ns))), some (.own (vNats ds2)), some (.v (.int i)), some (.v (.int (m : Int))), z4, z5], .inl ?_, ds2, _, _, _, _, g2, by omega, rfl⟩
        simp_all [-q_sFor, ab, c]
        exact e
  refine ⟨ds, ?_, g, by rw [li] at l; omega⟩
  unfold f__law_draws
  rw [mkFn_eq]
  unfold b__law_draws
  generalize vInts ns = xs at *
  simp_all [-q_sFor, e]
abbrev DM (ds : List Nat) (a : Nat) : HObj := .dct [(Sum.inr "draws", .ro (vNats ds)), (Sum.inr "at", .int (a : Int))]
theorem get_at {hs : Heap} {ds : List Nat} {a : Nat} : fDGet (DM ds a :: hs) (.v (.obj 0)) (.v (.str "at")) = some (.v (.int (a : Int))) := rfl
theorem get_dr {hs : Heap} {ds : List Nat} {a : Nat} : fDGet (DM ds a :: hs) (.v (.obj 0)) (.v (.str "draws")) = some (.v (.ro (vNats ds))) := rfl
theorem set_at {hs : Heap} {ds : List Nat} {a b : Nat} {r : Env} {e : E} (hr : r[0]? = some (some (.v (.obj 0)))) (he : e r (DM ds a :: hs) = .ok (.v (.int (b : Int))) (DM ds a :: hs)) : sDSet (eVar 0) (eC (.str "at")) e r (DM ds a :: hs) = .nx r (DM ds b :: hs) := by
  unfold sDSet
  rw [he]
  show (eVar 0 r (DM ds a :: hs)).then r _ = _
  have : eVar 0 r (DM ds a :: hs) = .ok (.v (.obj 0)) (DM ds a :: hs) := by
    simp_all [hr]
  rw [this]
  rfl
theorem take_ok {hs : Heap} {ds : List Nat} {a m : Nat} (g : Sm ds) (hm : 0 < m) (hm2 : m < 2 ^ 100) (hl : ds.length ≤ 3780) : ∃ v b, f__law_take [.v (.obj 0), .v (.int (m : Int))] (DM ds a :: hs) = .ok (.v (.int (v : Nat))) (DM ds b :: hs) ∧ v < m := by
  by_cases c : ds.length ≤ a
  · refine ⟨0, a, ?_, hm⟩
    have g1 := get_at (hs := hs) (ds := ds) (a := a)
    have g2 := get_dr (hs := hs) (ds := ds) (a := a)
    unfold f__law_take
    rw [mkFn_eq]
    unfold b__law_take
    generalize DM ds a = D at *
    simp_all [g1, g2, c]
  · have hx := g _ (List.getElem_mem (show a < ds.length by omega))
    have hd : ds.getD a 0 = ds[a] := by rw [List.getD_eq_getElem?_getD, List.getElem?_eq_getElem (by omega)]; rfl
    refine ⟨ds.getD a 0 % m, a + 1, ?_, Nat.mod_lt _ hm⟩
    have g1 := get_at (hs := hs) (ds := ds) (a := a)
    have g2 := get_dr (hs := hs) (ds := ds) (a := a)
    have g3 := get_dr (hs := hs) (ds := ds) (a := a + 1)
    have gs := set_at (hs := hs) (ds := ds) (a := a) (b := a + 1) (r := [some (.v (.obj 0)), some (.v (.int (m : Int))), some (.v (.int (a : Int)))]) (e := e2 fAdd (eVar 2) (eC (.int 1))) rfl (by simp_all [])
    unfold f__law_take
    rw [mkFn_eq]
    unfold b__law_take
    generalize DM ds a = D at *
    generalize DM ds (a + 1) = D2 at *
    simp_all [g1, g2, g3, gs, c]
theorem octs_ok {hs : Heap} {ds : List Nat} {a s : Nat} (g : Sm ds) (hl : ds.length ≤ 3780) (hsz : s ≤ 5000) : ∃ (os : List Nat) (b : Nat), f__law_octets [.v (.obj 0), .v (.int (s : Int))] (DM ds a :: hs) = .ok (.v (.tup (vNats os))) (DM ds b :: hs) ∧ os.length = s ∧ ∀ x, x ∈ os → x < 256 := by
  obtain ⟨v1, b1, e1, h1⟩ := take_ok (hs := hs) (a := a) (m := 1009) g (by decide) (by decide) hl
  obtain ⟨v2, b2, e2, h2⟩ := take_ok (hs := hs) (a := b1) (m := 1009) g (by decide) (by decide) hl
  obtain ⟨r', h', e, rfl, os, sd, y4, lo, go, hsd, rfl⟩ := for_rng (s := 4) (n := s) (it := iRng1 (eVar 1)) (b := l__law_octets_1) (r := [some (.v (.obj 0)), some (.v (.int (s : Int))), some (.v (.int ((1 + v1 * 1009 + v2 : Nat) : Int))), some (.own []), none]) (h := DM ds b2 :: hs) (h1 := DM ds b2 :: hs)
    (fun k r h' => h' = DM ds b2 :: hs ∧ ∃ (os : List Nat) (sd : Nat) (y4 : Option RV), os.length = k ∧ (∀ x, x ∈ os → x < 256) ∧ sd < 2 ^ 40 ∧ r = [some (.v (.obj 0)), some (.v (.int (s : Int))), some (.v (.int (sd : Int))), some (.own (vNats os)), y4]) (by simp_all []) ⟨rfl, [], _, none, rfl, (fun n hn => nomatch hn), by omega, rfl⟩ fun k r h' hk ⟨q1, os, sd, y4, lo, go, hsd, q2⟩ => by
      subst q1 q2
      have hm : (sd * 1103515245 + 12345) % 2147483648 < 2147483648 := Nat.mod_lt _ (by decide)
      have ha : (sd * 1103515245 + 12345) % 2147483648 / 65536 &&& 255 < 256 := Nat.lt_of_le_of_lt Nat.and_le_right (by decide)
      refine ⟨[some (.v (.obj 0)), some (.v (.int (s : Int))), some (.v (.int (((sd * 1103515245 + 12345) % 2147483648 : Nat) : Int))), some (.own (vNats (os ++ [(sd * 1103515245 + 12345) % 2147483648 / 65536 &&& 255]))), some (.v (.int (k : Int)))], _, ?_, rfl, os ++ [(sd * 1103515245 + 12345) % 2147483648 / 65536 &&& 255], _, _, by rw [List.length_append, lo]; rfl, fun x hx => (List.mem_append.mp hx).elim (go x) fun z => by rw [List.mem_singleton.mp z]; exact ha, by omega, rfl⟩
      generalize DM ds b2 :: hs = hh at *
      unfold l__law_octets_1
      simp_all [nats_app1]
  refine ⟨os, b2, ?_, lo, go⟩
  unfold f__law_octets
  rw [mkFn_eq]
  unfold b__law_octets
  have la : (DM ds a :: hs).length = hs.length + 1 := rfl
  have lc : (DM ds b2 :: hs).length = hs.length + 1 := rfl
  generalize DM ds a :: hs = ha at *
  generalize DM ds b1 :: hs = hb at *
  generalize DM ds b2 :: hs = hc at *
  simp_all [-q_sFor, e1, e2, e]
theorem word_okL {hs : Heap} {ds : List Nat} {a : Nat} (g : Sm ds) (hl : ds.length ≤ 3780) : ∃ (w b : Nat), f__law_word [.v (.obj 0)] (DM ds a :: hs) = .ok (.v (.int (w : Int))) (DM ds b :: hs) ∧ w < 2 ^ 64 := by
  obtain ⟨c, b1, e1, h1⟩ := take_ok (hs := hs) (a := a) (m := 4) g (by decide) (by decide) hl
  by_cases c0 : c = 0
  · obtain ⟨v2, b2, e2, h2⟩ := take_ok (hs := hs) (a := b1) (m := 64) g (by decide) (by decide) hl
    obtain ⟨v3, b3, e3, h3⟩ := take_ok (hs := hs) (a := b2) (m := 3) g (by decide) (by decide) hl
    have hp : 2 ^ v2 < 2 ^ 64 := Nat.pow_lt_pow_right (by decide) h2
    subst c0
    obtain ⟨w, ew, hw⟩ : ∃ w : Nat, ([.int ((0 : Nat) : Int), .int ((18446744073709551615 : Nat) : Int), .int ((1 * 2 ^ v2 : Nat) : Int)] : List Val)[v3]? = some (.int (w : Int)) ∧ w < 2 ^ 64 := by
      obtain rfl | rfl | rfl : v3 = 0 ∨ v3 = 1 ∨ v3 = 2 := by omega
      · exact ⟨_, rfl, by decide⟩
      · exact ⟨_, rfl, by decide⟩
      · exact ⟨_, rfl, by rw [Nat.one_mul]; exact hp⟩
    refine ⟨w, b3, ?_, hw⟩
    unfold f__law_word
    rw [mkFn_eq]
    unfold b__law_word
    have la : (DM ds a :: hs).length = hs.length + 1 := rfl
    have ld : (DM ds b3 :: hs).length = hs.length + 1 := rfl
    generalize DM ds a :: hs = ha at *
    generalize DM ds b1 :: hs = hb at *
    generalize DM ds b2 :: hs = hc at *
    generalize DM ds b3 :: hs = hd at *
    simp_all [e1, e2, e3, ew]
  · obtain ⟨os, b2, e2, lo, go⟩ := octs_ok (hs := hs) (a := b1) (s := 8) g hl (by decide)
    obtain ⟨r', h', e, rfl, n, y3, hn, rfl⟩ := for_ok (g := .nm 3) (it := iSeq (eCall f__law_octets (aCons (eVar 0) (aCons (eC (.int 8)) (aNil))))) (b := l__law_word_1) (r := [some (.v (.obj 0)), some (.v (.int (c : Int))), some (.v (.int ((0 : Nat) : Int))), none]) (h := DM ds b1 :: hs) (h1 := DM ds b2 :: hs) (xs := vNats os)
      (fun k r h' => h' = DM ds b2 :: hs ∧ ∃ (n : Nat) (y3 : Option RV), n < 256 ^ k ∧ r = [some (.v (.obj 0)), some (.v (.int (c : Int))), some (.v (.int (n : Int))), y3]) (by
        generalize DM ds b1 :: hs = hb at *
        generalize DM ds b2 :: hs = hc at *
        simp_all [e2]) ⟨rfl, 0, none, by decide, rfl⟩ fun k v r h' hk ⟨q1, n, y3, hn, q2⟩ => by
        subst q1 q2
        have hk8 : k < 8 := by have := (List.getElem?_eq_some_iff.mp hk).1; rw [nats_len, lo] at this; exact this
        obtain ⟨x, hx, rfl⟩ := List.mem_map.mp (List.mem_of_getElem? hk)
        have hx := go x hx
        have hp : 256 ^ k ≤ 256 ^ 7 := Nat.pow_le_pow_right (by decide) (by omega)
        have e256 : 256 ^ (k + 1) = 256 ^ k * 256 := by rw [Nat.pow_succ]
        generalize 256 ^ k = p at *
        refine ⟨_, rfl, [some (.v (.obj 0)), some (.v (.int (c : Int))), some (.v (.int ((n * 256 + x : Nat) : Int))), some (.v (.int (x : Int)))], _, .inl ?_, rfl, n * 256 + x, _, by omega, rfl⟩
        generalize DM ds b2 :: hs = hc at *
        unfold l__law_word_1
        simp_all []
    rw [nats_len, lo] at hn
    refine ⟨n, b2, ?_, by omega⟩
    unfold f__law_word
    rw [mkFn_eq]
    unfold b__law_word
    have la : (DM ds a :: hs).length = hs.length + 1 := rfl
    have lc : (DM ds b2 :: hs).length = hs.length + 1 := rfl
    generalize DM ds a :: hs = ha at *
    generalize DM ds b1 :: hs = hb at *
    generalize DM ds b2 :: hs = hc at *
    simp_all [-q_sFor, e1, c0, e]
theorem same_okL {h : Heap} {xs : List Nat} (hl : xs.length ≤ 1000) : f__law_same [.v (.tup (vNats xs)), .v (.tup (vNats xs))] h = .ok (.v (.bool true)) h := by
  have e : eLc [2] (.nm 2) (iSeqE (eVar 0)) tYes c__law_same_1 [some (.v (.tup (vNats xs))), some (.v (.tup (vNats xs))), none] h = .ok (.own (xs.map fun _ => .bool true)) h := by
    refine lc_natV (own := [2]) (s := 2) (it := iSeqE (eVar 0)) (e := c__law_same_1) (r := [some (.v (.tup (vNats xs))), some (.v (.tup (vNats xs))), none]) (h := h) (h1 := h) (dep := []) (ns := xs) (fun _ => .bool true) (by simp_all []) (by omega) fun i hi => ?_
    unfold c__law_same_1
    simp_all [q_trB]
  have ea : ∀ h, fAllB h (.own (xs.map fun _ => Val.bool true)) = some (.v (.bool true)) := fun h => all_true
  unfold f__law_same
  rw [mkFn_eq]
  unfold b__law_same
  generalize xs.map (fun _ => Val.bool true) = bs at *
  simp_all [e, ea, q_trB]
theorem words_lc {ds : List Nat} {a n : Nat} {c : E} {r : Env} (hc : c = eCall f__law_word (aCons (eVar 1) (aNil))) (g : Sm ds) (hl : ds.length ≤ 3780) (hn : n ≤ 100) (h1 : ∀ x, ((wipeE r [3]).set 3 (some (.v x)))[1]? = some (some (.v (.obj 0)))) (hi : iRng1 (eC (.int (n : Int))) r [DM ds a] = .ok (vNats (List.range' 0 n), []) [DM ds a]) :
    ∃ (ws : List Nat) (b : Nat), eLc [3] (.nm 3) (iRng1 (eC (.int (n : Int)))) tYes c r [DM ds a] = .ok (.own (vNats ws)) [DM ds b] ∧ WB n ws := by
  obtain ⟨acc, h2, e, ws, b, rfl, rfl, l, gw⟩ := lc_ok (own := [3]) (g := .nm 3) (it := iRng1 (eC (.int (n : Int)))) (e := c) (r := r) (h := [DM ds a]) (h1 := [DM ds a]) (xs := vNats (List.range' 0 n)) (dep := [])
    (fun k acc h => ∃ (ws : List Nat) (b : Nat), acc = vNats ws ∧ h = [DM ds b] ∧ ws.length = k ∧ ∀ x, x ∈ ws → x < 2 ^ 64) hi (by rw [nats_len, List.length_range']; show n ≤ 16777216; omega) (fun i acc h p => fun _ hi => nomatch hi) ⟨[], a, rfl, rfl, rfl, fun x hx => nomatch hx⟩ fun k x acc h hk ⟨ws, b, q1, q2, l, gw⟩ => by
      subst q1 q2
      obtain ⟨w, b2, ew, hw⟩ := word_okL (hs := []) (a := b) g hl
      refine ⟨_, rfl, .v (.int (w : Int)), [DM ds b2], .int (w : Int), ?_, rfl, ws ++ [w], b2, (List.map_append (l₂ := [w]) ..).symm, rfl, by rw [List.length_append, l]; rfl, fun y hy => (List.mem_append.mp hy).elim (gw y) fun z => by rw [List.mem_singleton.mp z]; exact hw⟩
      subst hc
      have h1 := h1 x
      generalize (wipeE r [3]).set 3 (some (.v x)) = r2 at *
      generalize DM ds b = D1 at *
      generalize DM ds b2 = D2 at *
      simp_all [h1, ew]
  rw [nats_len, List.length_range'] at l
  exact ⟨ws, b, e, l, gw⟩

noncomputable def tl_law : S := sCons (sSet 7 (eCall f__law_compressed (aCons (eVar 2) (aCons (eVar 4) (aCons (eVar 5) (aCons (eVar 6) (aNil))))))) (sCons (sSet 8 (eLst (aCons (e1 fList (eVar 2)) (aCons (e1 fList (eVar 4)) (aNil))))) (sCons (sIf (tOr (tNot (tTru (eCall f__law_same (aCons (eCall f_compress (aCons (eVar 2) (aCons (eVar 4) (aCons (eVar 5) (aCons (eVar 6) (aNil)))))) (aCons (eVar 7) (aNil)))))) (tB (e2 (fEq true) (eLst (aCons (eVar 2) (aCons (eVar 4) (aNil)))) (eVar 8)))) (sRet (eC (.bool false))) (sNil)) (sRet (eCall f__law_same (aCons (eCall f_compress (aCons (e1 fTuple (eVar 2)) (aCons (e1 fTuple (eVar 4)) (aCons (eVar 5) (aCons (eVar 6) (aNil)))))) (aCons (eVar 7) (aNil)))))))
theorem b_law_eq : b_law = sCons (sSet 1 (eDict [("draws", eCall f__law_draws (aCons (eVar 0) (aNil))), ("at", eC (.int 0))])) (sCons (sSet 2 (eLc [3] (.nm 3) (iRng1 (eC (.int 8))) (tYes) c_law_1)) (sCons (sSet 4 (eLc [3] (.nm 3) (iRng1 (eC (.int 16))) (tYes) c_law_2)) (sCons (sIf (tB (e2 (fEq false) (eCall f__law_take (aCons (eVar 1) (aCons (eC (.int 6)) (aNil)))) (eC (.int 0)))) (sSet 4 (e2 fMul (eLst (aCons (e2 fIx (eVar 4) (eC (.int 0))) (aNil))) (eC (.int 16)))) (sNil)) (sCons (sSet 5 (e2 fIx (eLst (aCons (eC (.int 128)) (aCons (eC (.int 0)) (aCons (eCall f__law_take (aCons (eVar 1) (aCons (eC (.int 1009)) (aNil)))) (aCons (e2 fShl (eC (.int 1)) (eC (.int 64))) (aCons (e2 fSub (e2 fShl (eC (.int 1)) (eC (.int 70))) (eC (.int 1))) (aCons (eC (.int 18446744073709551615)) (aNil)))))))) (eCall f__law_take (aCons (eVar 1) (aCons (eC (.int 6)) (aNil)))))) (sCons (sSet 6 (e2 (fEq false) (eCall f__law_take (aCons (eVar 1) (aCons (eC (.int 2)) (aNil)))) (eC (.int 0)))) (tl_law)))))) := rfl
theorem tailL {h : Heap} {v0 v1 : Option RV} {st ws : List Nat} {n : Nat} {l : Bool} (gs : WB 8 st) (gw : WB 16 ws) (hn : n < 2 ^ 200) :
    tl_law [v0, v1, some (.v (.ro (vNats st))), none, some (.v (.ro (vNats ws))), some (.v (.int (n : Int))), some (.v (.bool l)), none, none] h = .rt (.v (.bool true)) h := by
  have c1 := fun h => compress_okL (h := h) (n := n) (l := l) gs gw (wv := .v (.ro (vNats ws))) (sv := .v (.ro (vNats st))) (.inr (.inl rfl)) (.inr (.inl rfl)) hn
  have c2 := fun h => compress_okL (h := h) (n := n) (l := l) gs gw (wv := .v (.tup (vNats ws))) (sv := .v (.tup (vNats st))) (.inr (.inr rfl)) (.inr (.inr rfl)) hn
  have c3 := fun h => lcomp_ok (h := h) (n := n) (l := l) gs gw hn
  have lc := (CB_wb (w := ws) (n := n) (l := l) gs).1
  have c4 := fun h => same_okL (h := h) (xs := CB st ws n l) (by omega)
  have ls := gs.1
  have lw := gw.1
  generalize CB st ws n l = o at *
  unfold tl_law
  simp_all [c1, c2, c3, c4, q_trB]
set_option maxHeartbeats 4000000 in
theorem main (ns : List Int) (hns : ns.length ≤ 63) : ∃ h', f_law [.v (.scr (ns.map .int))] [] = .ok (.v (.bool true)) h' := by
  obtain ⟨ds, ed, gd, ld⟩ := draws_ok (h := []) hns
  have e0 : eDict [("draws", eCall f__law_draws (aCons (eVar 0) (aNil))), ("at", eC (.int 0))] [some (.v (.scr (vInts ns))), none, none, none, none, none, none, none, none] [] = .ok (.v (.obj 0)) [DM ds 0] := by
    have : eCall f__law_draws (aCons (eVar 0) (aNil)) [some (.v (.scr (vInts ns))), none, none, none, none, none, none, none, none] [] = .ok (.own (vNats ds)) [] := by
      simp_all [ed]
    unfold eDict
    show ((eCall f__law_draws (aCons (eVar 0) (aNil)) [some (.v (.scr (vInts ns))), none, none, none, none, none, none, none, none] []).bind _).bind dFin = _
    rw [this]
    rfl
  obtain ⟨st, b1, e1, gs⟩ := words_lc (n := 8) (a := 0) (c := c_law_1) (r := [some (.v (.scr (vInts ns))), some (.v (.obj 0)), none, none, none, none, none, none, none]) rfl gd ld (by decide) (fun x => rfl) (by
    generalize DM ds 0 = D at *
    show iRng1 (eC (.int 8)) _ _ = _
    simp_all [])
  obtain ⟨ws, b2, e2, gw⟩ := words_lc (n := 16) (a := b1) (c := c_law_2) (r := [some (.v (.scr (vInts ns))), some (.v (.obj 0)), some (.v (.ro (vNats st))), none, none, none, none, none, none]) rfl gd ld (by decide) (fun x => rfl) (by
    generalize DM ds b1 = D at *
    show iRng1 (eC (.int 16)) _ _ = _
    simp_all [])
  have e1 : eLc [3] (.nm 3) (iRng1 (eC (.int 8))) tYes c_law_1 [some (.v (.scr (vInts ns))), some (.v (.obj 0)), none, none, none, none, none, none, none] [DM ds 0] = .ok (.own (vNats st)) [DM ds b1] := e1
  have e2 : eLc [3] (.nm 3) (iRng1 (eC (.int 16))) tYes c_law_2 [some (.v (.scr (vInts ns))), some (.v (.obj 0)), some (.v (.ro (vNats st))), none, none, none, none, none, none] [DM ds b1] = .ok (.own (vNats ws)) [DM ds b2] := e2
  obtain ⟨v3, b3, e3, h3⟩ := take_ok (hs := []) (a := b2) (m := 6) gd (by decide) (by decide) ld
  obtain ⟨v4, b4, e4, h4⟩ := take_ok (hs := []) (a := b3) (m := 1009) gd (by decide) (by decide) ld
  obtain ⟨v5, b5, e5, h5⟩ := take_ok (hs := []) (a := b4) (m := 6) gd (by decide) (by decide) ld
  obtain ⟨v6, b6, e6, h6⟩ := take_ok (hs := []) (a := b5) (m := 2) gd (by decide) (by decide) ld
  have sh64 : ∀ h, fShl h (.v (.int ((1 : Nat) : Int))) (.v (.int ((64 : Nat) : Int))) = some (.v (.int ((18446744073709551616 : Nat) : Int))) := fun h => nn_shl (by decide) (by decide)
  have sh70 : ∀ h, fShl h (.v (.int ((1 : Nat) : Int))) (.v (.int ((70 : Nat) : Int))) = some (.v (.int ((1180591620717411303424 : Nat) : Int))) := fun h => nn_shl (by decide) (by decide)
  have sb : ∀ h, fSub h (.v (.int ((1180591620717411303424 : Nat) : Int))) (.v (.int ((1 : Nat) : Int))) = some (.v (.int ((1180591620717411303423 : Nat) : Int))) := fun h => nn_sub (by decide)
  obtain ⟨n, en, hn⟩ : ∃ n : Nat, ([.int ((128 : Nat) : Int), .int ((0 : Nat) : Int), .int (v4 : Int), .int ((18446744073709551616 : Nat) : Int), .int ((1180591620717411303423 : Nat) : Int), .int ((18446744073709551615 : Nat) : Int)] : List Val)[v5]? = some (.int (n : Int)) ∧ n < 2 ^ 200 := by
    obtain rfl | rfl | rfl | rfl | rfl | rfl : v5 = 0 ∨ v5 = 1 ∨ v5 = 2 ∨ v5 = 3 ∨ v5 = 4 ∨ v5 = 5 := by omega
    · exact ⟨_, rfl, by decide⟩
    · exact ⟨_, rfl, by decide⟩
    · exact ⟨_, rfl, by omega⟩
    · exact ⟨_, rfl, by decide⟩
    · exact ⟨_, rfl, by decide⟩
    · exact ⟨_, rfl, by decide⟩
  have lw := gw.1
  have gr : WB 16 (List.replicate 16 (ws.getD 0 0)) := ⟨List.length_replicate, fun x hx => by rw [(List.mem_replicate.mp hx).2]; exact gw.at 0⟩
  have t1 := fun h v0 v1 l => tailL (h := h) (v0 := v0) (v1 := v1) (l := l) gs gw hn
  have t2 := fun h v0 v1 l => tailL (h := h) (v0 := v0) (v1 := v1) (l := l) gs gr hn
  unfold f_law
  rw [mkFn_eq, b_law_eq]
  generalize [DM ds 0] = H0 at *
  generalize [DM ds b1] = H1 at *
  generalize [DM ds b2] = H2 at *
  generalize [DM ds b3] = H3 at *
  generalize [DM ds b4] = H4 at *
  generalize [DM ds b5] = H5 at *
  generalize [DM ds b6] = H6 at *
  by_cases c : v3 = 0
  · have dummy := 0
    have mu : ∀ h, fMul h (.own [.int (ws.getD 0 0 : Nat)]) (.v (.int ((16 : Nat) : Int))) = some (.own (vNats (List.replicate 16 (ws.getD 0 0)))) := fun h => by
      rw [mul_o (by decide) (by show 1 * 16 ≤ _; decide), flat_one, rep_n]
    generalize List.replicate 16 (ws.getD 0 0) = R at *
    simp_all [-nn_shl, -nn_sub, -mul_o, e0, e1, e2, e3, e4, e5, e6, sh64, sh70, sb, en, c, mu, t2]
    exact ⟨_, rfl⟩
  · simp_all [-nn_shl, -nn_sub, e0, e1, e2, e3, e4, e5, e6, sh64, sh70, sb, en, c, t1]
    exact ⟨_, rfl⟩

end Lk15

set_option maxHeartbeats 0 in
theorem PySem.Challenge.cw_saltmill_k15_blake_compress_holds : PySem.Challenge.rw_saltmill_k15_blake_compress.Holds := by
  w_on; o_law; k_head; (case hw => w_witness2)
  k_fill
  refine L2.walk_of (l := PySem.Challenge.rw_saltmill_k15_blake_compress) (n := 63) (k := 4) (x := "script") (CX := fun w => L2.CX (PySem.Challenge.rw_saltmill_k15_blake_compress).prog w) (sp := fun w => SM.spL _ Lk15.f_law) rfl (by decide) rfl ⟨rfl, by decide, by decide⟩ (fun w h Y => PySem.W.kIn_of Y) ?F (fun _ H a ns hl hO hS => fun mg => SM.law_sp hO hS (Lk15.main ns hl)) ?X
  case X => exact fun w H s e s' c => SM.cx_none c
  case F =>
    intro w mg fa h KX G hmg
    refine' Lk15.all_mk KX G hmg ?a1 ?l1 ?c1 ?e1 ?a2 ?l2 ?c2 ?e2 ?a3 ?l3 ?c3 ?e3 ?a4 ?l4 ?c4 ?e4 ?a5 ?l5 ?c5 ?e5 ?a6 ?l6 ?c6 ?e6 ?a7 ?l7 ?c7 ?e7 ?a8 ?l8 ?c8 ?e8 ?a9 ?l9 ?c9 ?e9 ?a10 ?l10 ?c10 ?e10 ?a11 ?l11 ?c11 ?e11 ?a12 ?l12 ?c12 ?e12 ?a13 ?l13 ?c13 ?e13 ?a14 ?l14 ?c14 ?e14 ?a15 ?l15 ?c15 ?e15 ?a16 ?l16 ?c16 ?e16 ?a17 ?l17 ?c17 ?e17 ?b18 ?b19 ?b20 ?b21 ?h21_1 ?b22 ?b23 ?b24 ?b25 ?h25_1 ?h25_2 ?h25_19 ?h25_36 ?h25_53 ?h25_70 ?h25_87 ?h25_104 ?h25_121 ?h25_138 ?h25_155 ?b26 ?h26_1 ?h26_2 ?h26_7 ?h26_12 ?h26_17 ?h26_22 ?h26_27 ?h26_32 ?h26_37 ?b27 ?b28 ?b29 ?b30 ?b31 ?b32 ?b33
    (case a1 => k_is); (case l1 => k_is); (case c1 => k_is); (case e1 => k_is); (case a2 => k_is); (case l2 => k_is); (case c2 => k_is); (case e2 => k_is); (case a3 => k_is); (case l3 => k_is); (case c3 => k_is); (case e3 => k_is); (case a4 => k_is); (case l4 => k_is); (case c4 => k_is); (case e4 => k_is); (case a5 => k_is); (case l5 => k_is); (case c5 => k_is); (case e5 => k_is); (case a6 => k_is); (case l6 => k_is); (case c6 => k_is); (case e6 => k_is); (case a7 => k_is); (case l7 => k_is); (case c7 => k_is); (case e7 => k_is); (case a8 => k_is); (case l8 => k_is); (case c8 => k_is); (case e8 => k_is); (case a9 => k_is); (case l9 => k_is); (case c9 => k_is); (case e9 => k_is); (case a10 => k_is); (case l10 => k_is); (case c10 => k_is); (case e10 => k_is); (case a11 => k_is); (case l11 => k_is); (case c11 => k_is); (case e11 => k_is); (case a12 => k_is); (case l12 => k_is); (case c12 => k_is); (case e12 => k_is); (case a13 => k_is); (case l13 => k_is); (case c13 => k_is); (case e13 => k_is); (case a14 => k_is); (case l14 => k_is); (case c14 => k_is); (case e14 => k_is); (case a15 => k_is); (case l15 => k_is); (case c15 => k_is); (case e15 => k_is); (case a16 => k_is); (case l16 => k_is); (case c16 => k_is); (case e16 => k_is); (case a17 => k_is); (case l17 => k_is); (case c17 => k_is); (case e17 => k_is); (case b18 => k_is); (case b19 => k_is); (case b20 => k_is); (case b21 => k_is); (case h21_1 => k_is); (case b22 => k_is); (case b23 => k_is); (case b24 => k_is); (case b25 => k_is); (case h25_1 => k_is); (case h25_2 => k_is); (case h25_19 => k_is); (case h25_36 => k_is); (case h25_53 => k_is); (case h25_70 => k_is); (case h25_87 => k_is); (case h25_104 => k_is); (case h25_121 => k_is); (case h25_138 => k_is); (case h25_155 => k_is); (case b26 => k_is); (case h26_1 => k_is); (case h26_2 => k_is); (case h26_7 => k_is); (case h26_12 => k_is); (case h26_17 => k_is); (case h26_22 => k_is); (case h26_27 => k_is); (case h26_32 => k_is); (case h26_37 => k_is); (case b27 => k_is); (case b28 => k_is); (case b29 => k_is); (case b30 => k_is); (case b31 => k_is); (case b32 => k_is); (case b33 => k_is)
