import PyProof.Rows.All
import Wide.All
import OpenK.AllK
import Wide.FinOn
import PySem.Challenge.RW_saltmill_k50_joined_blocks
import HandS.ForMost
import HandS.ForExc
import HandS.CallSlots
import HandS.Flow
import HandS.Wide
import HandS.WideBits
import HandS.TupAny
import HandS.TupMul
import HandS.IsInst
import HandS.Zip
import HandS.Text
import HandS.Style
import HandS.Iter
import HandS.Conv
import HandS.NoneIn
import PyProof.AutoSeq1
set_option Elab.async false
set_option linter.all false
set_option maxRecDepth 100000
/-! SMCore: a small machine of our own for the program's language: values, a heap as a list, expressions, statements and calls as functions. -/
namespace SM
open PySem (Str)

/-- a value; ro: a list that is never changed again; scr: the list that the law is given; obj: what stands in our heap -/
inductive Val where
  | none
  | bool (b : Bool)
  | int (i : Int)
  | str (x : Str)
  | tup (vs : List Val)
  | ro (vs : List Val)
  | scr (vs : List Val)
  | obj (n : Nat)

/-- what an expression gives, what a slot holds: a value; a list of one's own; a list that is only read here -/
inductive RV where
  | v (x : Val)
  | own (xs : List Val)
  | view (xs : List Val)

inductive HObj where
  | lst (xs : List Val)
  | ins (c : Str) (fs : List (Str × Val))
  | dct (kvs : List (L2.Key × Val))

abbrev Env := List (Option RV)
abbrev Heap := List HObj

structure Exn where
  cls : Str
  args : List Val

inductive EO (α : Type) where
  | ok (a : α) (h : Heap)
  | ex (e : Exn) (h : Heap)
  | no

inductive SO where
  | nx (r : Env) (h : Heap)
  | rt (x : RV) (h : Heap)
  | bk (r : Env) (h : Heap)
  | ct (r : Env) (h : Heap)
  | ex (e : Exn) (r : Env) (h : Heap)
  | no

abbrev E := Env → Heap → EO RV
abbrev T := Env → Heap → EO Bool
abbrev A := Env → Heap → EO (List RV)
abbrev S := Env → Heap → SO
abbrev Fn := List RV → Heap → EO RV

def EO.bind {α β : Type} (o : EO α) (f : α → Heap → EO β) : EO β := match o with
  | .ok a h => f a h
  | .ex e h => .ex e h
  | .no => .no
theorem EO.bind_ok {α β : Type} (a : α) (h : Heap) (f : α → Heap → EO β) : (EO.ok a h).bind f = f a h := (Eq.refl _).trans (Eq.refl _)
theorem EO.bind_ex {α β : Type} (e : Exn) (h : Heap) (f : α → Heap → EO β) : (EO.ex e h : EO α).bind f = .ex e h := (Eq.refl _).trans (Eq.refl _)
theorem EO.bind_no {α β : Type} (f : α → Heap → EO β) : (EO.no : EO α).bind f = .no := (Eq.refl _).trans (Eq.refl _)
/-- an expression's end as a statement's -/
def EO.then {α : Type} (o : EO α) (r : Env) (f : α → Heap → SO) : SO := match o with
  | .ok a h => f a h
  | .ex e h => .ex e r h
  | .no => .no
theorem EO.then_ok {α : Type} (a : α) (r : Env) (h : Heap) (f : α → Heap → SO) : (EO.ok a h).then r f = f a h := (Eq.refl _).trans (Eq.refl _)
theorem EO.then_ex {α : Type} (e : Exn) (r : Env) (h : Heap) (f : α → Heap → SO) : (EO.ex e h : EO α).then r f = .ex e r h := (Eq.refl _).trans (Eq.refl _)
theorem EO.then_no {α : Type} (r : Env) (f : α → Heap → SO) : (EO.no : EO α).then r f = .no := (Eq.refl _).trans (Eq.refl _)
def SO.seq (o : SO) (f : Env → Heap → SO) : SO := match o with
  | .nx r h => f r h
  | .rt x h => .rt x h
  | .bk r h => .bk r h
  | .ct r h => .ct r h
  | .ex e r h => .ex e r h
  | .no => .no
theorem SO.seq_nx (r : Env) (h : Heap) (f : Env → Heap → SO) : (SO.nx r h).seq f = f r h := (Eq.refl _).trans (Eq.refl _)
theorem SO.seq_rt (x : RV) (h : Heap) (f : Env → Heap → SO) : (SO.rt x h).seq f = .rt x h := (Eq.refl _).trans (Eq.refl _)
theorem SO.seq_bk (r : Env) (h : Heap) (f : Env → Heap → SO) : (SO.bk r h).seq f = .bk r h := (Eq.refl _).trans (Eq.refl _)
theorem SO.seq_ct (r : Env) (h : Heap) (f : Env → Heap → SO) : (SO.ct r h).seq f = .ct r h := (Eq.refl _).trans (Eq.refl _)
theorem SO.seq_ex (e : Exn) (r : Env) (h : Heap) (f : Env → Heap → SO) : (SO.ex e r h).seq f = .ex e r h := (Eq.refl _).trans (Eq.refl _)
theorem SO.seq_no (f : Env → Heap → SO) : (SO.no).seq f = .no := (Eq.refl _).trans (Eq.refl _)

abbrev line : Nat := 16777216

/-- a sequence: is it a tuple?, its items -/
def look (h : Heap) : RV → Option (Bool × List Val)
  | .v (.tup vs) => some (true, vs)
  | .v (.ro vs) => some (false, vs)
  | .v (.scr vs) => some (false, vs)
  | .own vs => some (false, vs)
  | .view vs => some (false, vs)
  | .v (.obj n) => match h[n]? with
    | some (.lst vs) => some (false, vs)
    | _ => none
  | _ => none

/-- a list that we know to be tracked -/
def lookL (h : Heap) : RV → Option (List Val)
  | .v (.ro vs) => some vs
  | .own vs => some vs
  | .view vs => some vs
  | .v (.obj n) => match h[n]? with
    | some (.lst vs) => some vs
    | _ => none
  | _ => none
def lookT : RV → Option (List Val)
  | .v (.tup vs) => some vs
  | _ => none

/-- as a value that may be kept -/
def RV.keep : RV → Option Val
  | .v x => some x
  | .own xs => some (.ro xs)
  | .view _ => none
/-- as an argument -/
def RV.arg : RV → RV
  | .own xs => .v (.ro xs)
  | r => r

def opt {α : Type} (o : Option α) (h : Heap) : EO α := match o with
  | some a => .ok a h
  | none => .no
theorem opt_some {α : Type} (a : α) (h : Heap) : opt (some a) h = .ok a h := (Eq.refl _).trans (Eq.refl _)
theorem opt_none {α : Type} (h : Heap) : opt (none : Option α) h = .no := (Eq.refl _).trans (Eq.refl _)

/-! ### expressions -/
def eC (x : Val) : E := fun _ h => .ok (.v x) h
def rdSlot : RV → RV
  | .own xs => .view xs
  | r => r
def eVar (i : Nat) : E := fun r h => match r[i]? with
  | some (some x) => .ok (rdSlot x) h
  | _ => .no
abbrev F1 := Heap → RV → Option RV
abbrev F2 := Heap → RV → RV → Option RV
def e1 (f : F1) (a : E) : E := fun r h => (a r h).bind fun x h1 => opt (f h1 x) h1
def e2 (f : F2) (a b : E) : E := fun r h => (a r h).bind fun x h1 => (b r h1).bind fun y h2 => opt (f h2 x y) h2
def aNil : A := fun _ h => .ok [] h
def aCons (a : E) (as : A) : A := fun r h => (a r h).bind fun x h1 => (as r h1).bind fun xs h2 => .ok (x.arg :: xs) h2
def keeps : List RV → Option (List Val)
  | [] => some []
  | r :: rs => match r.keep, keeps rs with
    | some x, some xs => some (x :: xs)
    | _, _ => none
def eTup (as : A) : E := fun r h => (as r h).bind fun rs h1 => match keeps rs with
  | some xs => if xs.length ≤ line then .ok (.v (.tup xs)) h1 else .no
  | none => .no
def eLst (as : A) : E := fun r h => (as r h).bind fun rs h1 => match keeps rs with
  | some xs => if xs.length ≤ line then .ok (.own xs) h1 else .no
  | none => .no
def eCall (f : Fn) (as : A) : E := fun r h => (as r h).bind f
def eIf (t : T) (a b : E) : E := fun r h => (t r h).bind fun c h1 => if c = true then a r h1 else b r h1

/-! ### tests -/
def truth (h : Heap) : RV → Option Bool
  | .v .none => some false
  | .v (.bool b) => some b
  | .v (.int i) => some (i != 0)
  | .v (.str x) => if x.length ≤ line then some ((x.length : Int) != 0) else none
  | r => match look h r with
    | some (_, xs) => some (!xs.isEmpty)
    | none => none
/-- of a bool -/
def tB (a : E) : T := fun r h => (a r h).bind fun x h1 => match x with
  | .v (.bool b) => .ok b h1
  | _ => .no
def tTru (a : E) : T := fun r h => (a r h).bind fun x h1 => opt (truth h1 x) h1
def tAnd (a b : T) : T := fun r h => (a r h).bind fun c h1 => if c = true then b r h1 else .ok false h1
def tOr (a b : T) : T := fun r h => (a r h).bind fun c h1 => if c = true then .ok true h1 else b r h1
def tNot (a : T) : T := fun r h => (a r h).bind fun c h1 => .ok (!c) h1
/-- and, or, not as values -/
def eAnd (a b : E) : E := fun r h => (a r h).bind fun x h1 => match truth h1 x with
  | some true => b r h1
  | some false => .ok x h1
  | none => .no
def eOr (a b : E) : E := fun r h => (a r h).bind fun x h1 => match truth h1 x with
  | some true => .ok x h1
  | some false => b r h1
  | none => .no
def eNot (a : E) : E := fun r h => (a r h).bind fun x h1 => match truth h1 x with
  | some c => .ok (.v (.bool (!c))) h1
  | none => .no

/-! ### operations on values -/
def fI (C : Int → Int → Prop) [∀ i j, Decidable (C i j)] (g : Int → Int → Val) : F2 := fun _ x y => match x, y with
  | .v (.int i), .v (.int j) => if C i j then some (.v (g i j)) else none
  | _, _ => none
def fI0 (g : Int → Int → Val) : F2 := fun _ x y => match x, y with
  | .v (.int i), .v (.int j) => some (.v (g i j))
  | _, _ => none
abbrev fLt : F2 := fI0 fun i j => .bool (decide (i < j))
abbrev fLe : F2 := fI0 fun i j => .bool (decide (i ≤ j))
abbrev fGt : F2 := fI0 fun i j => .bool (decide (j < i))
abbrev fGe : F2 := fI0 fun i j => .bool (decide (j ≤ i))
abbrev fSub : F2 := fI0 fun i j => .int (i - j)
abbrev fAnd : F2 := fI0 fun i j => .int (PySem.Builtin.bitAnd i j)
abbrev fOr : F2 := fI0 fun i j => .int (PySem.Builtin.bitOr i j)
abbrev fXor : F2 := fI0 fun i j => .int (PySem.Builtin.bitXor i j)
abbrev fShr : F2 := fI (fun _ j => 0 ≤ j) fun i j => .int (i / 2 ^ j.toNat)
abbrev fMod : F2 := fI (fun _ j => 0 < j) fun i j => .int (i % j)
/-- // by a divisor below 2 ^ 9000 -/
abbrev fDiv : F2 := fI (fun _ j => 0 < j ∧ j.natAbs.log2 < 9000) fun i j => .int (i / j)
abbrev fShl : F2 := fI (fun i j => 0 ≤ j ∧ (PySem.Builtin.Int.intBits i : Int) + j ≤ 2 ^ 27) fun i j => .int (i * 2 ^ j.toNat)
def fAdd : F2 := fun h x y => match x, y with
  | .v (.int i), .v (.int j) => some (.v (.int (i + j)))
  | .v (.str i), .v (.str j) => if i.length + j.length ≤ line then some (.v (.str (i ++ j))) else none
  | .v (.tup a), .v (.tup b) => if a.length + b.length ≤ line then some (.v (.tup (a ++ b))) else none
  | x, y => match lookL h x, lookL h y with
    | some a, some b => if a.length + b.length ≤ line then some (.own (a ++ b)) else none
    | _, _ => none
abbrev CMul (i j : Int) : Prop := (PySem.Builtin.Int.intBits i : Int) + (PySem.Builtin.Int.intBits j : Int) ≤ 134217728
def fMul : F2 := fun h x y => match x, y with
  | .v (.int i), .v (.int j) => if CMul i j then some (.v (.int (i * j))) else none
  | .v (.tup a), .v (.int k) => if a.isEmpty = false ∧ 2 ≤ k ∧ k ≤ 1000 ∧ a.length ≤ 1000 then some (.v (.tup (List.replicate k.toNat a).flatten)) else none
  | x, .v (.int k) => match lookL h x with
    | some a => if -(2 ^ 63) ≤ k ∧ k < 2 ^ 63 ∧ a.length * k.toNat ≤ line then some (.own (List.replicate k.toNat a).flatten) else none
    | none => none
  | _, _ => none
/-- a place in a sequence, of any sign -/
abbrev atI {α : Type} (xs : List α) (i : Int) : Option α := L2.atI xs i
def fIx : F2 := fun h x y => match y with
  | .v (.int i) => match x with
    | .v (.str z) => if z.length ≤ line then (L2.atI z.cps.toList i).map fun c => .v (.str ⟨#[c]⟩) else none
    | x => match look h x with
      | some (_, xs) => (L2.atI xs i).map .v
      | none => none
  | _ => none
def fLen : F1 := fun h x => match x with
  | .v (.str z) => if z.length ≤ line then some (.v (.int z.length)) else none
  | x => match look h x with
    | some (_, xs) => some (.v (.int xs.length))
    | none => none
def fNeg : F1 := fun _ x => match x with
  | .v (.int i) => some (.v (.int (-i)))
  | _ => none
def fInv : F1 := fun _ x => match x with
  | .v (.int i) => some (.v (.int (PySem.Builtin.bitNot i)))
  | _ => none
def fAbs : F1 := fun _ x => match x with
  | .v (.int i) => some (.v (.int (if i < 0 then -i else i)))
  | _ => none
def fInt : F1 := fun _ x => match x with
  | .v (.int i) => some (.v (.int i))
  | .v (.bool b) => some (.v (.int (if b then 1 else 0)))
  | _ => none
def fList : F1 := fun h x => match look h x with
  | some (_, xs) => some (.own xs)
  | none => none
def fTuple : F1 := fun h x => match look h x with
  | some (_, xs) => some (.v (.tup xs))
  | none => none
def fMax : F2 := fI0 fun i j => .int (if j > i then j else i)
def fMin : F2 := fI0 fun i j => .int (if j < i then j else i)
end SM
namespace SM
open PySem (Str PyData)
/-! ### equality, membership, kinds -/
mutual
def toD : Val → Option PyData
  | .none => some .none
  | .bool b => some (.bool b)
  | .int i => some (.int i)
  | .str x => some (.str x)
  | .tup vs => (toDs vs).map .tuple
  | .ro vs => (toDs vs).map .list
  | .scr _ => none
  | .obj _ => none
def toDs : List Val → Option (List PyData)
  | [] => some []
  | x :: xs => match toD x, toDs xs with
    | some d, some ds => some (d :: ds)
    | _, _ => none
end
def toDR (h : Heap) : RV → Option PyData
  | .v (.obj n) => match h[n]? with
    | some (.lst vs) => (toDs vs).map .list
    | _ => none
  | .v x => toD x
  | .own vs => (toDs vs).map .list
  | .view vs => (toDs vs).map .list
def fEq (neg : Bool) : F2 := fun h x y => match toDR h x, toDR h y with
  | some d, some e => if PySem.SeqAt.shaped d = true ∧ PySem.SeqAt.shaped e = true then some (.v (.bool (if neg then !PyData.eqv d e else PyData.eqv d e))) else none
  | _, _ => none
def flat : Val → Bool
  | .none => true
  | .bool _ => true
  | .int _ => true
  | .str _ => true
  | _ => false
/-- == of flat values -/
def eqF : Val → Val → Bool
  | .none, .none => true
  | .bool a, .bool b => a == b
  | .bool a, .int b => (if a then 1 else 0) == b
  | .int a, .bool b => a == (if b then 1 else 0)
  | .int a, .int b => a == b
  | .str a, .str b => a == b
  | _, _ => false
def fIn (neg : Bool) : F2 := fun h x y => match x with
  | .v x => match y with
    | .v (.str z) => match x with
      | .str c => match c.cps.toList with
        | [k] => some (.v (.bool (if neg then !decide (k ∈ z.cps.toList) else decide (k ∈ z.cps.toList))))
        | _ => none
      | _ => none
    | y => match look h y with
      | some (_, xs) => if flat x = true ∧ xs.all flat = true then some (.v (.bool (if neg then !xs.any fun z => eqF z x else xs.any fun z => eqF z x))) else none
      | none => none
  | _ => none
def fNone (neg : Bool) : F1 := fun _ x => match x with
  | .v .none => some (.v (.bool (!neg)))
  | _ => some (.v (.bool neg))
def tyName (h : Heap) : RV → Option String
  | .v .none => some "NoneType"
  | .v (.bool _) => some "bool"
  | .v (.int _) => some "int"
  | .v (.str _) => some "str"
  | .v (.tup _) => some "tuple"
  | .v (.ro _) => some "list"
  | .v (.scr _) => some "list"
  | .own _ => some "list"
  | .view _ => some "list"
  | .v (.obj n) => match h[n]? with
    | some (.lst _) => some "list"
    | some (.dct _) => some "dict"
    | _ => none
def subT (t T : String) : Bool := t == T || (t == "bool" && T == "int")
def fIs (T : String) : F1 := fun h x => match tyName h x with
  | some t => some (.v (.bool (subT t T)))
  | none => none
def fSum : F1 := fun h x => match lookL h x with
  | some xs => if (xs.all fun x => match x with
    | .int _ => true
    | _ => false) = true then some (.v (.int (xs.map fun x => match x with
    | .int i => i
    | _ => 0).sum)) else none
  | none => none
def fAll (any : Bool) : F1 := fun h x => match lookL h x with
  | some xs => if (xs.all fun x => match x with
    | .bool _ => true
    | _ => false) = true then some (.v (.bool (if any then xs.any fun x => match x with
    | .bool b => b
    | _ => false else xs.all fun x => match x with
    | .bool b => b
    | _ => false))) else none
  | none => none
/-- a < b < c -/
def eChain (f g : F2) (a b c : E) : E := fun r h => (a r h).bind fun x h1 => (b r h1).bind fun y h2 => match f h2 x y with
  | some (.v (.bool true)) => (c r h2).bind fun z h3 => opt (g h3 y z) h3
  | some (.v (.bool false)) => .ok (.v (.bool false)) h2
  | _ => .no
end SM
namespace SM
open PySem (Str)
/-! ### statements -/
def sNil : S := fun r h => .nx r h
def sCons (a b : S) : S := fun r h => (a r h).seq b
/-- a value kept in a slot: a list of one's own stands for good from now on -/
def sSet (i : Nat) (a : E) : S := fun r h => (a r h).then r fun x h1 => match x.keep with
  | some y => .nx (r.set i (some (.v y))) h1
  | none => .no
/-- a list of one's own kept in a slot, as one's own -/
def sOwn (i : Nat) (a : E) : S := fun r h => (a r h).then r fun x h1 => match x with
  | .own xs => .nx (r.set i (some (.own xs))) h1
  | _ => .no
/-- a list of one's own kept in the heap, the slot holds its place -/
def sHeap (i : Nat) (a : E) : S := fun r h => (a r h).then r fun x h1 => match x with
  | .own xs => .nx (r.set i (some (.v (.obj h1.length)))) (h1 ++ [.lst xs])
  | _ => .no
/-- a slot's list of one's own stands for good from here on -/
def sFrz (i : Nat) : S := fun r h => match r[i]? with
  | some (some (.own xs)) => .nx (r.set i (some (.v (.ro xs)))) h
  | _ => .no
def sExpr (a : E) : S := fun r h => (a r h).then r fun _ h1 => .nx r h1
def sRet (a : E) : S := fun r h => (a r h).then r fun x h1 => match x with
  | .view _ => .no
  | x => .rt x h1
/-- return of a name that holds a list of one's own -/
def sRetOwn (i : Nat) : S := fun r h => match r[i]? with
  | some (some (.own xs)) => .rt (.own xs) h
  | _ => .no
def sRetN : S := fun r h => .rt (.v .none) h
def sIf (t : T) (a b : S) : S := fun r h => (t r h).then r fun c h1 => if c = true then a r h1 else b r h1
def sPass : S := fun r h => .nx r h
def sBreak : S := fun r h => .bk r h
def sCont : S := fun r h => .ct r h
/-- what stands here is never come to -/
def sNever : S := fun _ _ => .no
/-- a slot's list of one's own: an item more -/
def sApp (i : Nat) (a : E) : S := fun r h => match r[i]? with
  | some (some (.own xs)) => (a r h).then r fun x h1 => match x.keep with
    | some y => if xs.length < line then .nx (r.set i (some (.own (xs ++ [y])))) h1 else .no
    | none => .no
  | _ => .no
/-- .. some items more (of a list that we know) -/
def sExt (i : Nat) (a : E) : S := fun r h => match r[i]? with
  | some (some (.own xs)) => (a r h).then r fun x h1 => match lookL h1 x with
    | some ys => if xs.length + ys.length ≤ line then .nx (r.set i (some (.own (xs ++ ys)))) h1 else .no
    | none => .no
  | _ => .no
/-- slot[k] = value: the value first -/
def sSetIx (i : Nat) (ix : E) (a : E) : S := fun r h => (a r h).then r fun x h1 => match x.keep with
  | some y => match r[i]? with
    | some (some (.own xs)) => (ix r h1).then r fun j h2 => match j with
      | .v (.int j) => match L2.ixN xs.length j with
        | some n => .nx (r.set i (some (.own (xs.set n y)))) h2
        | none => .no
      | _ => .no
    | _ => .no
  | none => .no
/-- o[k] = value, o a list of the heap -/
def sSetHp (o : E) (ix : E) (a : E) : S := fun r h => (a r h).then r fun x h1 => match x.keep with
  | some y => (o r h1).then r fun p h2 => match p with
    | .v (.obj m) => (ix r h2).then r fun j h3 => match j with
      | .v (.int j) => match h3[m]? with
        | some (.lst xs) => match L2.ixN xs.length j with
          | some n => .nx r (h3.set m (.lst (xs.set n y)))
          | none => .no
        | _ => .no
      | _ => .no
    | _ => .no
  | none => .no
/-- a, b, .. = e -/
def setAll : List Nat → List Val → Env → Env
  | i :: is, x :: xs, r => setAll is xs (r.set i (some (.v x)))
  | _, _, r => r
def sUnp (is : List Nat) (a : E) : S := fun r h => (a r h).then r fun x h1 => match x with
  | .v (.tup xs) => if xs.length = is.length then .nx (setAll is xs r) h1 else .no
  | _ => .no
/-- a, b = x, y: two names -/
def sPar2 (i j : Nat) (a b : E) : S := fun r h => (a r h).then r fun x h1 => match x.keep with
  | some x => (b r h1).then r fun y h2 => match y.keep with
    | some y => .nx ((r.set i (some (.v x))).set j (some (.v y))) h2
    | none => .no
  | none => .no
/-- slot op= e -/
def sAug (i : Nat) (f : F2) (a : E) : S := fun r h => match r[i]? with
  | some (some (.v x)) => (a r h).then r fun y h1 => match f h1 (.v x) y with
    | some z => match z.keep with
      | some z => .nx (r.set i (some (.v z))) h1
      | none => .no
    | none => .no
  | _ => .no
/-- a loop's turn is behind -/
def SO.turn (o : SO) (f : Env → Heap → SO) : SO := match o with
  | .nx r h => f r h
  | .ct r h => f r h
  | .bk r h => .nx r h
  | .rt x h => .rt x h
  | .ex e r h => .ex e r h
  | .no => .no
theorem SO.turn_nx (r : Env) (h : Heap) (f : Env → Heap → SO) : (SO.nx r h).turn f = f r h := (Eq.refl _).trans (Eq.refl _)
theorem SO.turn_ct (r : Env) (h : Heap) (f : Env → Heap → SO) : (SO.ct r h).turn f = f r h := (Eq.refl _).trans (Eq.refl _)
theorem SO.turn_bk (r : Env) (h : Heap) (f : Env → Heap → SO) : (SO.bk r h).turn f = .nx r h := (Eq.refl _).trans (Eq.refl _)
theorem SO.turn_rt (x : RV) (h : Heap) (f : Env → Heap → SO) : (SO.rt x h).turn f = .rt x h := (Eq.refl _).trans (Eq.refl _)
theorem SO.turn_ex (e : Exn) (r : Env) (h : Heap) (f : Env → Heap → SO) : (SO.ex e r h).turn f = .ex e r h := (Eq.refl _).trans (Eq.refl _)
theorem SO.turn_no (f : Env → Heap → SO) : (SO.no).turn f = .no := (Eq.refl _).trans (Eq.refl _)
def sWhile (c : T) (b : S) : Nat → S
  | 0 => fun _ _ => .no
  | n + 1 => fun r h => (c r h).then r fun k h1 => if k = true then (b r h1).turn (sWhile c b n) else .nx r h1
/-- a loop's target -/
inductive Tg where
  | nm (i : Nat)
  | tp (is : List Nat)
def Tg.put : Tg → Val → Env → Option Env
  | .nm i, x, r => some (r.set i (some (.v x)))
  | .tp is, .tup xs, r => if xs.length = is.length then some (setAll is xs r) else none
  | .tp _, _, _ => none
/-- the objects at dep are as they were -/
def Same (dep : List Nat) (h0 h : Heap) : Prop := ∀ n, n ∈ dep → h[n]? = h0[n]?
open Classical in
noncomputable def chkS (dep : List Nat) (h0 h : Heap) (k : SO) : SO := match dep with
  | [] => k
  | _ :: _ => if Same dep h0 h then k else .no
open Classical in
noncomputable def chkE {α : Type} (dep : List Nat) (h0 h : Heap) (k : EO α) : EO α := match dep with
  | [] => k
  | _ :: _ => if Same dep h0 h then k else .no
theorem chkS_nil (h0 h : Heap) (k : SO) : chkS [] h0 h k = k := (Eq.refl _).trans (Eq.refl _)
theorem chkE_nil {α : Type} (h0 h : Heap) (k : EO α) : chkE [] h0 h k = k := (Eq.refl _).trans (Eq.refl _)
theorem chkS_same (dep : List Nat) (h : Heap) (k : SO) : chkS dep h h k = k := by
  cases dep with
  | nil => rfl
  | cons n ns => exact if_pos fun _ _ => rfl
theorem chkE_same {α : Type} (dep : List Nat) (h : Heap) (k : EO α) : chkE dep h h k = k := by
  cases dep with
  | nil => rfl
  | cons n ns => exact if_pos fun _ _ => rfl
noncomputable def forL (g : Tg) (b : S) (dep : List Nat) (h0 : Heap) : List Val → S
  | [] => fun r h => chkS dep h0 h (.nx r h)
  | x :: xs => fun r h => chkS dep h0 h (match g.put x r with
    | some r1 => (b r1 h).turn (forL g b dep h0 xs)
    | none => .no)
/-- what is walked: its items, the objects of the heap that it leans on -/
abbrev I := Env → Heap → EO (List Val × List Nat)
/-- a sequence that stays through a loop: a tuple?, its items, what it leans on -/
def seqV (h : Heap) : RV → Option (Bool × List Val × List Nat)
  | .v (.tup xs) => some (true, xs, [])
  | .v (.ro xs) => some (false, xs, [])
  | .v (.scr xs) => some (false, xs, [])
  | .own xs => some (false, xs, [])
  | .v (.obj n) => match h[n]? with
    | some (.lst xs) => some (false, xs, [n])
    | _ => none
  | _ => none
/-- .. through an expression -/
def seqE (h : Heap) : RV → Option (Bool × List Val × List Nat)
  | .view xs => some (false, xs, [])
  | x => seqV h x
def iOf (sq : Heap → RV → Option (Bool × List Val × List Nat)) (a : E) : I := fun r h => (a r h).bind fun x h1 => match sq h1 x with
  | some (_, xs, dep) => .ok (xs, dep) h1
  | none => .no
abbrev iSeq : E → I := iOf seqV
abbrev iSeqE : E → I := iOf seqE
/-- a slot that holds a list which is only read here -/
def iView (i : Nat) : I := fun r h => match r[i]? with
  | some (some (.view xs)) => .ok (xs, []) h
  | some (some (.v x)) => match seqV h (.v x) with
    | some (_, xs, dep) => .ok (xs, dep) h
    | none => .no
  | _ => .no
def upTo (lo : Int) : Nat → List Val
  | 0 => []
  | n + 1 => .int lo :: upTo (lo + 1) n
def iRng1 (a : E) : I := fun r h => (a r h).bind fun x h1 => match x with
  | .v (.int j) => if -(2 ^ 62) ≤ j ∧ j < 2 ^ 62 then .ok (upTo 0 j.toNat, []) h1 else .no
  | _ => .no
def iRng2 (a b : E) : I := fun r h => (a r h).bind fun x h1 => (b r h1).bind fun y h2 => match x, y with
  | .v (.int i), .v (.int j) => if -(2 ^ 62) ≤ i ∧ i < 2 ^ 62 ∧ -(2 ^ 62) ≤ j ∧ j < 2 ^ 62 then .ok (upTo i (j - i).toNat, []) h2 else .no
  | _, _ => .no
def pairs : List Val → List Val → List Val
  | x :: xs, y :: ys => .tup [x, y] :: pairs xs ys
  | _, _ => []
def iZip (sq : Heap → RV → Option (Bool × List Val × List Nat)) (a b : E) : I := fun r h => (a r h).bind fun x h1 => (b r h1).bind fun y h2 => match sq h2 x, sq h2 y with
  | some (_, xs, d1), some (_, ys, d2) => .ok (pairs xs ys, d1 ++ d2) h2
  | _, _ => .no
noncomputable def sFor (g : Tg) (it : I) (b : S) : S := fun r h => (it r h).then r fun p h1 => forL g b p.2 h1 p.1 r h1
/-- a comprehension: no exception leaves it -/
def wipeE (r : Env) : List Nat → Env
  | [] => r
  | v :: vs => (wipeE r vs).set v none
noncomputable def lcGo (g : Tg) (c : T) (e : E) (r : Env) (dep : List Nat) (h0 : Heap) : List Val → List Val → Heap → EO RV
  | [], acc, h => chkE dep h0 h (.ok (.own acc) h)
  | x :: xs, acc, h => chkE dep h0 h (match g.put x r with
    | some r1 => match c r1 h with
      | .ok true h1 => match e r1 h1 with
        | .ok y h2 => match y.keep with
          | some z => lcGo g c e r dep h0 xs (acc ++ [z]) h2
          | none => .no
        | _ => .no
      | .ok false h1 => lcGo g c e r dep h0 xs acc h1
      | _ => .no
    | none => .no)
noncomputable def eLc (own : List Nat) (g : Tg) (it : I) (c : T) (e : E) : E := fun r h => (it r h).bind fun p h1 => if p.1.length ≤ line then lcGo g c e (wipeE r own) p.2 h1 p.1 [] h1 else .no
def tYes : T := fun _ h => .ok true h

/-! ### functions -/
mutual
def Val.under (n : Nat) : Val → Prop
  | .tup vs => underAll n vs
  | .ro vs => underAll n vs
  | .scr vs => underAll n vs
  | .obj k => k < n
  | _ => True
def underAll (n : Nat) : List Val → Prop
  | [] => True
  | x :: xs => x.under n ∧ underAll n xs
end
def RV.under (n : Nat) : RV → Prop
  | .v x => x.under n
  | .own xs => underAll n xs
  | .view xs => underAll n xs
def underF (n : Nat) : List (Str × Val) → Prop
  | [] => True
  | (_, x) :: xs => x.under n ∧ underF n xs
def underK (n : Nat) : List (L2.Key × Val) → Prop
  | [] => True
  | (_, x) :: xs => x.under n ∧ underK n xs
def HObj.under (n : Nat) : HObj → Prop
  | .lst vs => underAll n vs
  | .ins _ fs => underF n fs
  | .dct kvs => underK n kvs
/-- nothing of ours that was there leads to what is new -/
def Shr (h h' : Heap) : Prop := h.length ≤ h'.length ∧ ∀ i o, i < h.length → h'[i]? = some o → h[i]? = some o ∨ o.under h.length
open Classical in
noncomputable def fin (h : Heap) : SO → EO RV
  | .nx _ h' => .ok (.v .none) (if Shr h h' then h'.take h.length else h')
  | .rt x h' => .ok x (if Shr h h' ∧ x.under h.length then h'.take h.length else h')
  | .ex e _ h' => .ex e (if Shr h h' ∧ underAll h.length e.args then h'.take h.length else h')
  | _ => .no
noncomputable def mkFn (n : Nat) (b : S) : Fn := fun args h => fin h (b (args.map some ++ List.replicate (n - args.length) none) h)
end SM

/-! SMRel: how the small machine's state stands for the layer's abstract heap. -/
namespace SM
open PySem (Str)
open L2 (V HO Hp upd upd_same upd_ne SqL SqT Rd)
abbrev Addr := PySem.Addr
abbrev Frag := PySem.W.Frag
abbrev Mg := Str → Option PySem.Value

/-- a world: where our objects lie, what no value may lie at, how many objects, the abstract heap -/
structure Rw where
  io : Nat → Addr
  P : Addr → Prop
  n : Nat
  H : Hp

/-- a list in the written part -/
def KL (K : Frag) (a : Addr) (xs : List V) : Prop :=
  ∃ (o : PySem.Obj) (its : Array PySem.Value) (n : Nat), K.lookup a = some o ∧ o.cls = .type "list" ∧ o.dict = none ∧ o.data = .seq its n ∧ its.size ≤ PySem.sizeLine ∧ L2.Vals xs its.toList
def KT (K : Frag) (a : Addr) (xs : List V) : Prop :=
  ∃ (o : PySem.Obj) (its : Array PySem.Value) (n : Nat), K.lookup a = some o ∧ o.cls = .type "tuple" ∧ o.data = .seq its n ∧ its.size ≤ PySem.sizeLine ∧ L2.Vals xs its.toList
def Rw.out (w : Rw) (a : Addr) : Prop := ∀ k, k < w.n → w.io k ≠ a
/-- a tuple, a list that stands for good -/
def STup (K : Frag) (w : Rw) (a : Addr) (xs : List V) : Prop := (Rd w.H a (.tup xs) ∧ ¬ w.P a) ∨ KT K a xs
def SLst (K : Frag) (w : Rw) (a : Addr) (xs : List V) : Prop := (Rd w.H a (.lst xs) ∧ ¬ w.P a) ∨ KL K a xs
/-- a list that is read here -/
def SVw (w : Rw) (a : Addr) (xs : List V) : Prop := w.H a = some (.lst xs) ∧ w.out a
/-- a list that is never changed again -/
def SRo (w : Rw) (a : Addr) (xs : List V) : Prop := w.H a = some (.lst xs) ∧ ¬ w.P a

mutual
def RVal (K : Frag) (w : Rw) : Val → V → Prop
  | .none, v => v = .non
  | .bool b, v => v = .bl b
  | .int i, v => v = .int i
  | .str x, v => v = .str x
  | .tup vs, v => ∃ a xs, v = .ref a ∧ STup K w a xs ∧ RVals K w vs xs
  | .ro vs, v => ∃ a xs, v = .ref a ∧ SRo w a xs ∧ RVals K w vs xs
  | .scr vs, v => ∃ a xs, v = .ref a ∧ SLst K w a xs ∧ RVals K w vs xs
  | .obj k, v => k < w.n ∧ v = .ref (w.io k)
def RVals (K : Frag) (w : Rw) : List Val → List V → Prop
  | [], xs => xs = []
  | x :: vs, xs => ∃ y ys, xs = y :: ys ∧ RVal K w x y ∧ RVals K w vs ys
end

def RFs (K : Frag) (w : Rw) : List (Str × Val) → List (Str × V) → Prop
  | [], gs => gs = []
  | (f, x) :: fs, gs => ∃ y r, gs = (f, y) :: r ∧ RVal K w x y ∧ RFs K w fs r
def RKs (K : Frag) (w : Rw) : List (L2.Key × Val) → List (L2.Key × V) → Prop
  | [], gs => gs = []
  | (f, x) :: fs, gs => ∃ y r, gs = (f, y) :: r ∧ RVal K w x y ∧ RKs K w fs r

def RObj (K : Frag) (mg : Mg) (w : Rw) (a : Addr) : HObj → Prop
  | .lst vs => ∃ xs, w.H a = some (.lst xs) ∧ RVals K w vs xs
  | .ins c fs => ∃ C dx gs, w.H a = some (.ins C dx gs) ∧ mg c = some (.ref C) ∧ RFs K w fs gs
  | .dct kvs => ∃ gs, w.H a = some (.dK gs) ∧ RKs K w kvs gs

/-- the heap -/
structure RHp (K : Frag) (mg : Mg) (w : Rw) (h : Heap) : Prop where
  len : h.length = w.n
  obj : ∀ k o, h[k]? = some o → RObj K mg w (w.io k) o
  inj : ∀ j k, j < w.n → k < w.n → w.io j = w.io k → j = k
  inP : ∀ k, k < w.n → w.P (w.io k)
  ph : ∀ b, w.P b → ∃ o, w.H b = some o

/-- from one world to a later one, our own objects may have changed -/
structure Le (w w' : Rw) : Prop where
  n : w.n ≤ w'.n
  io : ∀ k, k < w.n → w'.io k = w.io k
  keep : ∀ b o, w.H b = some o → w.out b → w'.H b = some o
  there : ∀ b o, w.H b = some o → ∃ o', w'.H b = some o'
  P : ∀ b o, w.H b = some o → (w'.P b ↔ w.P b)
  new : ∀ k, w.n ≤ k → k < w'.n → w.H (w'.io k) = none

section
variable {K : Frag} {mg : Mg} {w w1 w2 : Rw} {h h' : Heap} {a : Addr}
theorem Le.refl (w : Rw) : Le w w := ⟨Nat.le_refl _, fun _ _ => rfl, fun _ _ e _ => e, fun _ o e => ⟨o, e⟩, fun _ _ _ => Iff.rfl, fun k h1 h2 => absurd h2 (Nat.not_lt.mpr h1)⟩
theorem Le.out (l : Le w w1) {b : Addr} {o : HO} (e : w.H b = some o) (u : w.out b) : w1.out b := fun k hk z => by
  by_cases h1 : k < w.n
  · rw [l.io k h1] at z
    exact u k h1 z
  · have := l.new k (Nat.not_lt.mp h1) hk
    rw [z, e] at this
    cases this
theorem Le.fresh (l : Le w w1) {b : Addr} (e : w1.H b = none) : w.H b = none := by
  cases q : w.H b with
  | none => rfl
  | some o =>
    obtain ⟨o', q'⟩ := l.there b o q
    rw [e] at q'
    cases q'
theorem Le.trans (l : Le w w1) (m : Le w1 w2) : Le w w2 where
  n := Nat.le_trans l.n m.n
  io := fun k hk => (m.io k (Nat.lt_of_lt_of_le hk l.n)).trans (l.io k hk)
  keep := fun b o e u => m.keep b o (l.keep b o e u) (l.out e u)
  there := fun b o e => by
    obtain ⟨o1, e1⟩ := l.there b o e
    exact m.there b o1 e1
  P := fun b o e => by
    obtain ⟨o1, e1⟩ := l.there b o e
    exact (m.P b o1 e1).trans (l.P b o e)
  new := fun k h1 h2 => by
    by_cases h3 : k < w1.n
    · rw [m.io k h3]
      exact l.new k h1 h3
    · exact l.fresh (m.new k (Nat.not_lt.mp h3) h2)
theorem RHp.outP (r : RHp K mg w h) {b : Addr} (hb : ¬ w.P b) : w.out b := fun k hk z => hb (z ▸ r.inP k hk)
theorem rd_keep (l : Le w w1) {u : HO} (q : Rd w.H a u) (ho : w.out a) : Rd w1.H a u := by
  rcases q with q | ⟨o, q⟩
  · exact .inl (l.keep _ _ q ho)
  · exact .inr ⟨o, l.keep _ _ q ho⟩
theorem rd_some {u : HO} (q : Rd w.H a u) : ∃ o, w.H a = some o := by
  rcases q with q | ⟨o, q⟩
  · exact ⟨_, q⟩
  · exact ⟨_, q⟩
theorem STup.le (r : RHp K mg w h) (l : Le w w1) {xs : List V} (q : STup K w a xs) : STup K w1 a xs := by
  rcases q with ⟨q, p⟩ | q
  · refine .inl ⟨rd_keep l q (r.outP p), fun z => p ?_⟩
    obtain ⟨o, e⟩ := rd_some q
    exact (l.P a o e).mp z
  · exact .inr q
theorem SLst.le (r : RHp K mg w h) (l : Le w w1) {xs : List V} (q : SLst K w a xs) : SLst K w1 a xs := by
  rcases q with ⟨q, p⟩ | q
  · refine .inl ⟨rd_keep l q (r.outP p), fun z => p ?_⟩
    obtain ⟨o, e⟩ := rd_some q
    exact (l.P a o e).mp z
  · exact .inr q
theorem SVw.le (l : Le w w1) {xs : List V} (q : SVw w a xs) : SVw w1 a xs := ⟨l.keep a _ q.1 q.2, l.out q.1 q.2⟩
theorem SRo.le (r : RHp K mg w h) (l : Le w w1) {xs : List V} (q : SRo w a xs) : SRo w1 a xs := ⟨l.keep a _ q.1 (r.outP q.2), fun z => q.2 ((l.P a _ q.1).mp z)⟩

mutual
theorem RVal.le (r : RHp K mg w h) (l : Le w w1) : ∀ {x : Val} {v : V}, RVal K w x v → RVal K w1 x v
  | .none, _, q => q
  | .bool _, _, q => q
  | .int _, _, q => q
  | .str _, _, q => q
  | .tup _, _, ⟨a, xs, e, s, q⟩ => ⟨a, xs, e, s.le r l, RVals.le r l q⟩
  | .ro _, _, ⟨a, xs, e, s, q⟩ => ⟨a, xs, e, s.le r l, RVals.le r l q⟩
  | .scr _, _, ⟨a, xs, e, s, q⟩ => ⟨a, xs, e, s.le r l, RVals.le r l q⟩
  | .obj k, _, ⟨hk, e⟩ => ⟨Nat.lt_of_lt_of_le hk l.n, by rw [l.io k hk]; exact e⟩
theorem RVals.le (r : RHp K mg w h) (l : Le w w1) : ∀ {xs : List Val} {vs : List V}, RVals K w xs vs → RVals K w1 xs vs
  | [], _, q => q
  | _ :: _, _, ⟨y, ys, e, q1, q2⟩ => ⟨y, ys, e, RVal.le r l q1, RVals.le r l q2⟩
end

/-- a smaller P -/
def Rw.withP (w : Rw) (P : Addr → Prop) : Rw := { w with P := P }
theorem STup.antiP {P : Addr → Prop} (hp : ∀ b, P b → w.P b) {xs : List V} (q : STup K w a xs) : STup K (w.withP P) a xs := by
  rcases q with ⟨q, p⟩ | q
  · exact .inl ⟨q, fun z => p (hp _ z)⟩
  · exact .inr q
theorem SLst.antiP {P : Addr → Prop} (hp : ∀ b, P b → w.P b) {xs : List V} (q : SLst K w a xs) : SLst K (w.withP P) a xs := by
  rcases q with ⟨q, p⟩ | q
  · exact .inl ⟨q, fun z => p (hp _ z)⟩
  · exact .inr q
mutual
theorem RVal.antiP {P : Addr → Prop} (hp : ∀ b, P b → w.P b) : ∀ {x : Val} {v : V}, RVal K w x v → RVal K (w.withP P) x v
  | .none, _, q => q
  | .bool _, _, q => q
  | .int _, _, q => q
  | .str _, _, q => q
  | .tup _, _, ⟨a, xs, e, s, q⟩ => ⟨a, xs, e, s.antiP hp, RVals.antiP hp q⟩
  | .ro _, _, ⟨a, xs, e, s, q⟩ => ⟨a, xs, e, ⟨s.1, fun z => s.2 (hp _ z)⟩, RVals.antiP hp q⟩
  | .scr _, _, ⟨a, xs, e, s, q⟩ => ⟨a, xs, e, s.antiP hp, RVals.antiP hp q⟩
  | .obj k, _, q => q
theorem RVals.antiP {P : Addr → Prop} (hp : ∀ b, P b → w.P b) : ∀ {xs : List Val} {vs : List V}, RVals K w xs vs → RVals K (w.withP P) xs vs
  | [], _, q => q
  | _ :: _, _, ⟨y, ys, e, q1, q2⟩ => ⟨y, ys, e, RVal.antiP hp q1, RVals.antiP hp q2⟩
end
theorem RVals.length : ∀ {xs : List Val} {vs : List V}, RVals K w xs vs → xs.length = vs.length
  | [], _, q => by
    have e : _ = [] := q
    rw [e]
    rfl
  | _ :: _, _, ⟨y, ys, e, _, q2⟩ => by
    rw [e, List.length_cons, List.length_cons, RVals.length q2]
theorem RVals.get : ∀ {xs : List Val} {vs : List V} {i : Nat} {x : Val}, RVals K w xs vs → xs[i]? = some x → ∃ v, vs[i]? = some v ∧ RVal K w x v
  | [], _, _, _, _, e => by simp at e
  | x :: xs, _, 0, _, ⟨y, ys, e, q1, q2⟩, e2 => by
    subst e
    have e2 : some x = some _ := e2
    cases e2
    exact ⟨y, rfl, q1⟩
  | x :: xs, _, i + 1, _, ⟨y, ys, e, q1, q2⟩, e2 => by
    subst e
    obtain ⟨v, h1, h2⟩ := RVals.get (i := i) q2 (by simpa using e2)
    exact ⟨v, by simpa using h1, h2⟩
theorem RVals.get' : ∀ {xs : List Val} {vs : List V} {i : Nat} {v : V}, RVals K w xs vs → vs[i]? = some v → ∃ x, xs[i]? = some x ∧ RVal K w x v
  | [], _, _, _, q, e => by
    have e1 : _ = [] := q
    subst e1
    simp at e
  | x :: xs, _, 0, _, ⟨y, ys, e, q1, q2⟩, e2 => by
    subst e
    have e2 : some y = some _ := e2
    cases e2
    exact ⟨x, rfl, q1⟩
  | x :: xs, _, i + 1, _, ⟨y, ys, e, q1, q2⟩, e2 => by
    subst e
    obtain ⟨v, h1, h2⟩ := RVals.get' (i := i) q2 (by simpa using e2)
    exact ⟨v, by simpa using h1, h2⟩
theorem RVals.append : ∀ {xs ys : List Val} {vs us : List V}, RVals K w xs vs → RVals K w ys us → RVals K w (xs ++ ys) (vs ++ us)
  | [], _, _, _, q, q' => by
    have e : _ = [] := q
    subst e
    exact q'
  | _ :: _, _, _, _, ⟨y, r, e, q1, q2⟩, q' => by
    subst e
    exact ⟨y, r ++ _, rfl, q1, RVals.append q2 q'⟩
theorem RVals.set {x : Val} {v : V} (q : RVal K w x v) : ∀ {xs : List Val} {vs : List V} (i : Nat), RVals K w xs vs → RVals K w (xs.set i x) (vs.set i v)
  | [], _, _, e => by
    have e1 : _ = [] := e
    subst e1
    exact rfl
  | _ :: _, _, 0, ⟨y, r, e, q1, q2⟩ => by
    subst e
    exact ⟨v, r, rfl, q, q2⟩
  | _ :: _, _, i + 1, ⟨y, r, e, q1, q2⟩ => by
    subst e
    exact ⟨y, r.set i v, rfl, q1, RVals.set q i q2⟩
theorem RVals.take : ∀ {xs : List Val} {vs : List V} (n : Nat), RVals K w xs vs → RVals K w (xs.take n) (vs.take n)
  | xs, vs, 0, _ => by rw [List.take_zero, List.take_zero]; rfl
  | [], _, n + 1, e => by
    have e1 : _ = [] := e
    subst e1
    exact rfl
  | _ :: _, _, n + 1, ⟨y, r, e, q1, q2⟩ => by
    subst e
    exact ⟨y, r.take n, rfl, q1, RVals.take n q2⟩
theorem RVals.drop : ∀ {xs : List Val} {vs : List V} (n : Nat), RVals K w xs vs → RVals K w (xs.drop n) (vs.drop n)
  | xs, vs, 0, q => by rw [List.drop_zero, List.drop_zero]; exact q
  | [], _, n + 1, e => by
    have e1 : _ = [] := e
    subst e1
    exact rfl
  | _ :: _, _, n + 1, ⟨y, r, e, q1, q2⟩ => by
    subst e
    exact RVals.drop n q2
theorem RVals.flatten_rep {xs : List Val} {vs : List V} (q : RVals K w xs vs) : ∀ k : Nat, RVals K w (List.replicate k xs).flatten (List.replicate k vs).flatten
  | 0 => rfl
  | k + 1 => by
    rw [List.replicate_succ, List.flatten_cons, List.replicate_succ, List.flatten_cons]
    exact q.append (RVals.flatten_rep q k)
theorem RVals.reverse : ∀ {xs : List Val} {vs : List V}, RVals K w xs vs → RVals K w xs.reverse vs.reverse
  | [], _, e => by
    have e1 : _ = [] := e
    subst e1
    exact rfl
  | x :: xs, _, ⟨y, r, e, q1, q2⟩ => by
    subst e
    rw [List.reverse_cons, List.reverse_cons]
    exact (RVals.reverse q2).append ⟨y, [], rfl, q1, rfl⟩
theorem RVals.one {x : Val} {v : V} (q : RVal K w x v) : RVals K w [x] [v] := ⟨v, [], rfl, q, rfl⟩
theorem RFs.le (r : RHp K mg w h) (l : Le w w1) : ∀ {fs : List (Str × Val)} {gs : List (Str × V)}, RFs K w fs gs → RFs K w1 fs gs
  | [], _, q => q
  | (_, _) :: _, _, ⟨y, g, e, q1, q2⟩ => ⟨y, g, e, q1.le r l, RFs.le r l q2⟩
theorem RKs.le (r : RHp K mg w h) (l : Le w w1) : ∀ {fs : List (L2.Key × Val)} {gs : List (L2.Key × V)}, RKs K w fs gs → RKs K w1 fs gs
  | [], _, q => q
  | (_, _) :: _, _, ⟨y, g, e, q1, q2⟩ => ⟨y, g, e, q1.le r l, RKs.le r l q2⟩
theorem RFs.antiP {P : Addr → Prop} (hp : ∀ b, P b → w.P b) : ∀ {fs : List (Str × Val)} {gs : List (Str × V)}, RFs K w fs gs → RFs K (w.withP P) fs gs
  | [], _, q => q
  | (_, _) :: _, _, ⟨y, g, e, q1, q2⟩ => ⟨y, g, e, q1.antiP hp, RFs.antiP hp q2⟩
theorem RKs.antiP {P : Addr → Prop} (hp : ∀ b, P b → w.P b) : ∀ {fs : List (L2.Key × Val)} {gs : List (L2.Key × V)}, RKs K w fs gs → RKs K (w.withP P) fs gs
  | [], _, q => q
  | (_, _) :: _, _, ⟨y, g, e, q1, q2⟩ => ⟨y, g, e, q1.antiP hp, RKs.antiP hp q2⟩
theorem RFs.look : ∀ {fs : List (Str × Val)} {gs : List (Str × V)} {f : Str} {x : Val}, RFs K w fs gs → fs.lookup f = some x → ∃ v, gs.lookup f = some v ∧ RVal K w x v
  | [], _, _, _, _, e => by simp at e
  | (g, y) :: fs, _, f, x, ⟨v, r, e, q1, q2⟩, e2 => by
    subst e
    rw [List.lookup_cons] at e2 ⊢
    cases hb : f == g with
    | true =>
      rw [hb] at e2
      have e2 : some y = some x := e2
      cases e2
      exact ⟨v, rfl, q1⟩
    | false =>
      rw [hb] at e2
      exact RFs.look q2 e2
theorem RFs.length : ∀ {fs : List (Str × Val)} {gs : List (Str × V)}, RFs K w fs gs → fs.length = gs.length
  | [], _, q => by
    have e : _ = [] := q
    rw [e]
    rfl
  | (_, _) :: _, _, ⟨y, ys, e, _, q2⟩ => by
    rw [e, List.length_cons, List.length_cons, RFs.length q2]
/-- an object whose own entry stays -/
theorem RObj.le (r : RHp K mg w h) (l : Le w w1) {o : HObj} (he : w1.H a = w.H a) (q : RObj K mg w a o) : RObj K mg w1 a o := by
  cases o with
  | lst vs =>
    obtain ⟨xs, e, q⟩ := q
    exact ⟨xs, he.trans e, q.le r l⟩
  | ins c fs =>
    obtain ⟨C, dx, gs, e, c, q⟩ := q
    exact ⟨C, dx, gs, he.trans e, c, q.le r l⟩
  | dct kvs =>
    obtain ⟨gs, e, q⟩ := q
    exact ⟨gs, he.trans e, q.le r l⟩
theorem RObj.antiP {P : Addr → Prop} (hp : ∀ b, P b → w.P b) {o : HObj} (q : RObj K mg w a o) : RObj K mg (w.withP P) a o := by
  cases o with
  | lst vs =>
    obtain ⟨xs, e, q⟩ := q
    exact ⟨xs, e, q.antiP hp⟩
  | ins c fs =>
    obtain ⟨C, dx, gs, e, c, q⟩ := q
    exact ⟨C, dx, gs, e, c, q.antiP hp⟩
  | dct kvs =>
    obtain ⟨gs, e, q⟩ := q
    exact ⟨gs, e, q.antiP hp⟩
theorem RObj.some {o : HObj} (q : RObj K mg w a o) : ∃ u, w.H a = some u := by
  cases o with
  | lst vs => obtain ⟨xs, e, _⟩ := q; exact ⟨_, e⟩
  | ins c fs => obtain ⟨C, dx, gs, e, _⟩ := q; exact ⟨_, e⟩
  | dct kvs => obtain ⟨gs, e, _⟩ := q; exact ⟨_, e⟩

/-! ### slots, results -/
def RSlot (K : Frag) (w : Rw) (ow : Addr → Prop) : RV → V → Prop
  | .v x, v => RVal K w x v
  | .own xs, v => ∃ a ys, v = .ref a ∧ w.H a = some (.lst ys) ∧ RVals K w xs ys ∧ w.P a ∧ w.out a
  | .view xs, v => ∃ a ys, v = .ref a ∧ (SVw w a ys ∧ ¬ ow a) ∧ RVals K w xs ys
/-- an expression's result; w0: the world ahead of it -/
def RRes (K : Frag) (w0 w : Rw) : RV → V → Prop
  | .v x, v => RVal K w x v
  | .own xs, v => ∃ a ys, v = .ref a ∧ w0.H a = none ∧ w.H a = some (.lst ys) ∧ RVals K w xs ys ∧ w.P a ∧ w.out a
  | .view xs, v => ∃ a ys, v = .ref a ∧ SVw w a ys ∧ RVals K w xs ys
def owns (r : Env) (σ : L2.St) (a : Addr) : Prop := ∃ (i : Nat) (xs : List Val), r[i]? = some (some (.own xs)) ∧ σ[i]? = some (some (.ref a))

structure Rel (K : Frag) (mg : Mg) (w : Rw) (r : Env) (h : Heap) (σ : L2.St) : Prop where
  hp : RHp K mg w h
  len : σ.length = r.length
  sl : ∀ (i : Nat) (x : RV), r[i]? = some (some x) → ∃ v, σ[i]? = some (some v) ∧ RSlot K w (owns r σ) x v
  own1 : ∀ (i j : Nat) (xs ys : List Val) (a : Addr), r[i]? = some (some (.own xs)) → r[j]? = some (some (.own ys)) → σ[i]? = some (some (.ref a)) → σ[j]? = some (some (.ref a)) → i = j

theorem RSlot.le {ow : Addr → Prop} (r : RHp K mg w h) (l : Le w w1) {x : RV} {v : V} (q : RSlot K w ow x v) : RSlot K w1 ow x v := by
  cases x with
  | v x => exact RVal.le r l q
  | own xs =>
    obtain ⟨a, ys, e, e1, q, p, u⟩ := q
    exact ⟨a, ys, e, l.keep a _ e1 u, q.le r l, (l.P a _ e1).mpr p, l.out e1 u⟩
  | view xs =>
    obtain ⟨a, ys, e, s, q⟩ := q
    exact ⟨a, ys, e, ⟨s.1.le l, s.2⟩, q.le r l⟩
theorem RSlot.antiP {ow : Addr → Prop} {P : Addr → Prop} (hp : ∀ b, P b → w.P b) {x : RV} {v : V} (q : RSlot K w ow x v) (ho : ∀ a xs, x = .own xs → v = .ref a → P a) : RSlot K (w.withP P) ow x v := by
  cases x with
  | v x => exact RVal.antiP hp q
  | own xs =>
    obtain ⟨a, ys, e, e1, q, p, u⟩ := q
    exact ⟨a, ys, e, e1, q.antiP hp, ho a xs rfl e, u⟩
  | view xs =>
    obtain ⟨a, ys, e, s, q⟩ := q
    exact ⟨a, ys, e, s, q.antiP hp⟩
theorem RRes.le {w0 : Rw} (r : RHp K mg w h) (l : Le w w1) {x : RV} {v : V} (q : RRes K w0 w x v) : RRes K w0 w1 x v := by
  cases x with
  | v x => exact RVal.le r l q
  | own xs =>
    obtain ⟨a, ys, e, e0, e1, q, p, u⟩ := q
    exact ⟨a, ys, e, e0, l.keep a _ e1 u, q.le r l, (l.P a _ e1).mpr p, l.out e1 u⟩
  | view xs =>
    obtain ⟨a, ys, e, s, q⟩ := q
    exact ⟨a, ys, e, s.le l, q.le r l⟩
theorem RRes.back {w0 w00 : Rw} (l : Le w00 w0) {x : RV} {v : V} (q : RRes K w0 w x v) : RRes K w00 w x v := by
  cases x with
  | v x => exact q
  | own xs =>
    obtain ⟨a, ys, e, e0, e1, q, p, u⟩ := q
    exact ⟨a, ys, e, l.fresh e0, e1, q, p, u⟩
  | view xs => exact q
end
end SM

/-! SMExp: what our expressions say, holds of the program's. -/
namespace SM
open PySem (Str Expr Pos Operator CmpOp)
open L2 hiding St
section
variable {K : Frag} {mg : Mg} {w w1 w2 : Rw} {h h' : Heap} {a : Addr}
theorem Rel.le {r : Env} {σ : L2.St} (R : Rel K mg w r h σ) (l : Le w w1) (q : RHp K mg w1 h') : Rel K mg w1 r h' σ := by
  refine ⟨q, R.len, fun i x e => ?_, R.own1⟩
  obtain ⟨v, e1, s⟩ := R.sl i x e
  exact ⟨v, e1, s.le R.hp l⟩

/-- what is behind an expression -/
def RExn (K : Frag) (mg : Mg) (w : Rw) (e : Exn) (cls : PySem.Value) (d : Option Addr) : Prop :=
  ∃ C, cls = .ref C ∧ mg e.cls = some (.ref C) ∧ match e.args with
    | [] => d = none
    | x :: _ => ∃ dx v, d = some dx ∧ w.H dx = some (.xd [("at", v)]) ∧ ¬ w.P dx ∧ RVal K w x v
def EK (K : Frag) (mg : Mg) (W : WX) (w : Rw) (σ : L2.St) (Q : VK) : EO RV → Prop
  | .ok x h => ∀ w' v, Le w w' → RHp K mg w' h → RRes K w w' x v → Q v w'.H
  | .ex e h => ∀ w' cls d, Le w w' → RHp K mg w' h → RExn K mg w' e cls d → W cls d σ w'.H
  | .no => False
def TK (K : Frag) (mg : Mg) (W : WX) (w : Rw) (σ : L2.St) (Q : Bool → Hp → Prop) : EO Bool → Prop
  | .ok b h => ∀ w', Le w w' → RHp K mg w' h → Q b w'.H
  | .ex e h => ∀ w' cls d, Le w w' → RHp K mg w' h → RExn K mg w' e cls d → W cls d σ w'.H
  | .no => False
def RArgs (K : Frag) (w : Rw) : List RV → List V → Prop
  | [], vs => vs = []
  | x :: xs, vs => ∃ v r, vs = v :: r ∧ RRes K w w x v ∧ RArgs K w xs r
def AK (K : Frag) (mg : Mg) (W : WX) (w : Rw) (σ : L2.St) (Q : List V → Hp → Prop) : EO (List RV) → Prop
  | .ok xs h => ∀ w' vs, Le w w' → RHp K mg w' h → RArgs K w' xs vs → Q vs w'.H
  | .ex e h => ∀ w' cls d, Le w w' → RHp K mg w' h → RExn K mg w' e cls d → W cls d σ w'.H
  | .no => False
def tE (K : Frag) (mg : Mg) (W : WX) (f : E) : TE := fun σ H Q => ∃ w r h, w.H = H ∧ Rel K mg w r h σ ∧ EK K mg W w σ Q (f r h)
def tT (K : Frag) (mg : Mg) (W : WX) (f : T) : TT := fun σ H Q => ∃ w r h, w.H = H ∧ Rel K mg w r h σ ∧ TK K mg W w σ Q (f r h)
def tA (K : Frag) (mg : Mg) (W : WX) (f : A) : TA := fun σ H Q => ∃ w r h, w.H = H ∧ Rel K mg w r h σ ∧ AK K mg W w σ Q (f r h)

theorem EK.le {W : WX} {σ : L2.St} {Q : VK} (l : Le w w1) : ∀ {o : EO RV}, EK K mg W w σ Q o → EK K mg W w1 σ Q o
  | .ok x h, k => fun w' v l' hp q => k w' v (l.trans l') hp (q.back l)
  | .ex e h, k => fun w' cls d l' hp q => k w' cls d (l.trans l') hp q
  | .no, k => k
theorem TK.le {W : WX} {σ : L2.St} {Q : Bool → Hp → Prop} (l : Le w w1) : ∀ {o : EO Bool}, TK K mg W w σ Q o → TK K mg W w1 σ Q o
  | .ok x h, k => fun w' l' hp => k w' (l.trans l') hp
  | .ex e h, k => fun w' cls d l' hp q => k w' cls d (l.trans l') hp q
  | .no, k => k
theorem AK.le {W : WX} {σ : L2.St} {Q : List V → Hp → Prop} (l : Le w w1) : ∀ {o : EO (List RV)}, AK K mg W w σ Q o → AK K mg W w1 σ Q o
  | .ok x h, k => fun w' v l' hp q => k w' v (l.trans l') hp q
  | .ex e h, k => fun w' cls d l' hp q => k w' cls d (l.trans l') hp q
  | .no, k => k
/-- an expression, then something of a value, a test, arguments -/
theorem EK.cut {W : WX} {σ : L2.St} {Q Q' : VK} {f : RV → Heap → EO RV} (c : ∀ x h1 w1 v1, Le w w1 → RHp K mg w1 h1 → RRes K w w1 x v1 → EK K mg W w1 σ Q (f x h1) → Q' v1 w1.H) :
    ∀ {o : EO RV}, EK K mg W w σ Q (o.bind f) → EK K mg W w σ Q' o
  | .ok x h, k => fun w' v l hp q => c x h w' v l hp q (EK.le l (o := f x h) k)
  | .ex e h, k => k
  | .no, k => k
theorem EK.cutT {W : WX} {σ : L2.St} {Q : Bool → Hp → Prop} {Q' : VK} {f : RV → Heap → EO Bool} (c : ∀ x h1 w1 v1, Le w w1 → RHp K mg w1 h1 → RRes K w w1 x v1 → TK K mg W w1 σ Q (f x h1) → Q' v1 w1.H) :
    ∀ {o : EO RV}, TK K mg W w σ Q (o.bind f) → EK K mg W w σ Q' o
  | .ok x h, k => fun w' v l hp q => c x h w' v l hp q (TK.le l (o := f x h) k)
  | .ex e h, k => k
  | .no, k => k
theorem EK.cutA {W : WX} {σ : L2.St} {Q : List V → Hp → Prop} {Q' : VK} {f : RV → Heap → EO (List RV)} (c : ∀ x h1 w1 v1, Le w w1 → RHp K mg w1 h1 → RRes K w w1 x v1 → AK K mg W w1 σ Q (f x h1) → Q' v1 w1.H) :
    ∀ {o : EO RV}, AK K mg W w σ Q (o.bind f) → EK K mg W w σ Q' o
  | .ok x h, k => fun w' v l hp q => c x h w' v l hp q (AK.le l (o := f x h) k)
  | .ex e h, k => k
  | .no, k => k
theorem TK.cut {W : WX} {σ : L2.St} {Q : VK} {Q' : Bool → Hp → Prop} {f : Bool → Heap → EO RV} (c : ∀ x h1 w1, Le w w1 → RHp K mg w1 h1 → EK K mg W w1 σ Q (f x h1) → Q' x w1.H) :
    ∀ {o : EO Bool}, EK K mg W w σ Q (o.bind f) → TK K mg W w σ Q' o
  | .ok x h, k => fun w' l hp => c x h w' l hp (EK.le l (o := f x h) k)
  | .ex e h, k => k
  | .no, k => k
theorem TK.cutT {W : WX} {σ : L2.St} {Q Q' : Bool → Hp → Prop} {f : Bool → Heap → EO Bool} (c : ∀ x h1 w1, Le w w1 → RHp K mg w1 h1 → TK K mg W w1 σ Q (f x h1) → Q' x w1.H) :
    ∀ {o : EO Bool}, TK K mg W w σ Q (o.bind f) → TK K mg W w σ Q' o
  | .ok x h, k => fun w' l hp => c x h w' l hp (TK.le l (o := f x h) k)
  | .ex e h, k => k
  | .no, k => k
theorem AK.cut {W : WX} {σ : L2.St} {Q : VK} {Q' : List V → Hp → Prop} {f : List RV → Heap → EO RV} (c : ∀ x h1 w1 v1, Le w w1 → RHp K mg w1 h1 → RArgs K w1 x v1 → EK K mg W w1 σ Q (f x h1) → Q' v1 w1.H) :
    ∀ {o : EO (List RV)}, EK K mg W w σ Q (o.bind f) → AK K mg W w σ Q' o
  | .ok x h, k => fun w' v l hp q => c x h w' v l hp q (EK.le l (o := f x h) k)
  | .ex e h, k => k
  | .no, k => k
theorem AK.cutA {W : WX} {σ : L2.St} {Q Q' : List V → Hp → Prop} {f : List RV → Heap → EO (List RV)} (c : ∀ x h1 w1 v1, Le w w1 → RHp K mg w1 h1 → RArgs K w1 x v1 → AK K mg W w1 σ Q (f x h1) → Q' v1 w1.H) :
    ∀ {o : EO (List RV)}, AK K mg W w σ Q (o.bind f) → AK K mg W w σ Q' o
  | .ok x h, k => fun w' v l hp q => c x h w' v l hp q (AK.le l (o := f x h) k)
  | .ex e h, k => k
  | .no, k => k

theorem EK.cut0 {W : WX} {σ : L2.St} {Q Q' : VK} {f : RV → Heap → EO RV} (c : ∀ x h1 w1 v1, Le w w1 → RHp K mg w1 h1 → RRes K w w1 x v1 → EK K mg W w σ Q (f x h1) → Q' v1 w1.H) :
    ∀ {o : EO RV}, EK K mg W w σ Q (o.bind f) → EK K mg W w σ Q' o
  | .ok x h, k => fun w' v l hp q => c x h w' v l hp q k
  | .ex e h, k => k
  | .no, k => k
theorem EK.cutA0 {W : WX} {σ : L2.St} {Q : List V → Hp → Prop} {Q' : VK} {f : RV → Heap → EO (List RV)} (c : ∀ x h1 w1 v1, Le w w1 → RHp K mg w1 h1 → RRes K w w1 x v1 → AK K mg W w σ Q (f x h1) → Q' v1 w1.H) :
    ∀ {o : EO RV}, AK K mg W w σ Q (o.bind f) → EK K mg W w σ Q' o
  | .ok x h, k => fun w' v l hp q => c x h w' v l hp q k
  | .ex e h, k => k
  | .no, k => k

/-! ### new things -/
/-- something new that no value is to lie at (a list of one's own), or a tuple -/
def Rw.newL (w : Rw) (p : Addr) (xs : List V) : Rw := ⟨w.io, fun b => b = p ∨ w.P b, w.n, upd w.H p (.lst xs)⟩
def Rw.newT (w : Rw) (p : Addr) (xs : List V) : Rw := ⟨w.io, w.P, w.n, upd w.H p (.tup xs)⟩
theorem RHp.tracked (R : RHp K mg w h) {k : Nat} (hk : k < w.n) : ∃ o, w.H (w.io k) = some o := R.ph _ (R.inP k hk)
theorem Le.newL {p : Addr} (hp : w.H p = none) {xs : List V} (R : RHp K mg w h) : Le w (w.newL p xs) where
  n := Nat.le_refl _
  io := fun _ _ => rfl
  keep := fun b o e _ => (upd_ne (ne_of_none e hp)).trans e
  there := fun b o e => ⟨o, (upd_ne (ne_of_none e hp)).trans e⟩
  P := fun b o e => ⟨fun z => z.elim (fun z => absurd z (ne_of_none e hp)) id, .inr⟩
  new := fun k h1 h2 => absurd h2 (Nat.not_lt.mpr h1)
theorem Le.newT {p : Addr} (hp : w.H p = none) {xs : List V} : Le w (w.newT p xs) where
  n := Nat.le_refl _
  io := fun _ _ => rfl
  keep := fun b o e _ => (upd_ne (ne_of_none e hp)).trans e
  there := fun b o e => ⟨o, (upd_ne (ne_of_none e hp)).trans e⟩
  P := fun b o e => Iff.rfl
  new := fun k h1 h2 => absurd h2 (Nat.not_lt.mpr h1)
theorem RHp.laid (R : RHp K mg w h) (l : Le w w1) (hn : w1.n = w.n) (hi : w1.io = w.io) (he : ∀ b o, w.H b = some o → w1.H b = some o) (hP : ∀ b, w1.P b → w.P b ∨ ∃ o, w1.H b = some o) : RHp K mg w1 h where
  len := R.len.trans hn.symm
  obj := fun k o e => by
    have q := R.obj k o e
    obtain ⟨u, eu⟩ := q.some
    rw [hi]
    exact q.le R l ((he _ _ eu).trans eu.symm)
  inj := fun j k h1 h2 e => by
    rw [hn] at h1 h2
    rw [hi] at e
    exact R.inj j k h1 h2 e
  inP := fun k hk => by
    rw [hn] at hk
    rw [hi]
    obtain ⟨o, e⟩ := R.tracked hk
    exact (l.P _ o e).mpr (R.inP k hk)
  ph := fun b hb => by
    rcases hP b hb with q | q
    · obtain ⟨o, e⟩ := R.ph b q
      exact ⟨o, he b o e⟩
    · exact q
theorem RHp.newL (R : RHp K mg w h) {p : Addr} (hp : w.H p = none) {xs : List V} : RHp K mg (w.newL p xs) h :=
  R.laid (Le.newL hp R) rfl rfl (fun b o e => (upd_ne (ne_of_none e hp)).trans e) fun b hb => hb.elim (fun z => .inr ⟨.lst xs, by rw [z]; exact upd_same⟩) .inl
theorem RHp.newT (R : RHp K mg w h) {p : Addr} (hp : w.H p = none) {xs : List V} : RHp K mg (w.newT p xs) h :=
  R.laid (Le.newT hp) rfl rfl (fun b o e => (upd_ne (ne_of_none e hp)).trans e) fun b hb => .inl hb
theorem RHp.outN (R : RHp K mg w h) {p : Addr} (hp : w.H p = none) : w.out p := fun k hk z => by
  obtain ⟨o, e⟩ := R.tracked hk
  rw [z, hp] at e
  cases e
theorem RHp.notP (R : RHp K mg w h) {p : Addr} (hp : w.H p = none) : ¬ w.P p := fun z => by
  obtain ⟨o, e⟩ := R.ph p z
  rw [hp] at e
  cases e
/-- a new list -/
theorem res_newL (R : RHp K mg w h) {p : Addr} (hp : w.H p = none) {xs : List Val} {vs : List V} (q : RVals K w xs vs) : RRes K w (w.newL p vs) (.own xs) (.ref p) :=
  ⟨p, vs, rfl, hp, upd_same, q.le R (Le.newL hp R), .inl rfl, R.outN hp⟩
theorem res_newT (R : RHp K mg w h) {p : Addr} (hp : w.H p = none) {xs : List Val} {vs : List V} (q : RVals K w xs vs) : RRes K w (w.newT p vs) (.v (.tup xs)) (.ref p) :=
  ⟨p, vs, rfl, .inl ⟨.inl upd_same, R.notP hp⟩, q.le R (Le.newT hp)⟩

/-! ### reading a sequence -/
theorem SLst.sql {xs : List V} (q : SLst K w a xs) : SqL K w.H a xs := q.elim (fun z => .inl z.1) .inr
theorem STup.sqt {xs : List V} (q : STup K w a xs) : SqT K w.H a xs := q.elim (fun z => .inl z.1) .inr
theorem SVw.sql {xs : List V} (q : SVw w a xs) : SqL K w.H a xs := .of q.1
theorem SRo.sql {xs : List V} (q : SRo w a xs) : SqL K w.H a xs := .of q.1
theorem look_tup {w0 : Rw} (R : RHp K mg w h) {x : RV} {v : V} {xs : List Val} (q : RRes K w0 w x v) (e : look h x = some (true, xs)) : ∃ a ys, v = .ref a ∧ SqT K w.H a ys ∧ RVals K w xs ys ∧ x = .v (.tup xs) := by
  cases x with
  | own _ => cases e
  | view _ => cases e
  | v x =>
    cases x with
    | tup vs =>
      have e1 : vs = xs := by
        have e : some (true, vs) = some (true, xs) := e
        cases e
        rfl
      subst e1
      obtain ⟨a, ys, e, s, q⟩ := q
      exact ⟨a, ys, e, s.sqt, q, rfl⟩
    | obj n =>
      have e : (match h[n]? with
        | some (.lst vs) => some (false, vs)
        | _ => none) = some (true, xs) := e
      split at e <;> cases e
    | _ => cases e
theorem look_lst {w0 : Rw} (R : RHp K mg w h) {x : RV} {v : V} {xs : List Val} (q : RRes K w0 w x v) (e : look h x = some (false, xs)) : ∃ a ys, v = .ref a ∧ SqL K w.H a ys ∧ RVals K w xs ys := by
  cases x with
  | own vs =>
    have e1 : vs = xs := by
      have e : some (false, vs) = some (false, xs) := e
      cases e
      rfl
    subst e1
    obtain ⟨a, ys, e, _, e1, q, _⟩ := q
    exact ⟨a, ys, e, .of e1, q⟩
  | view vs =>
    have e1 : vs = xs := by
      have e : some (false, vs) = some (false, xs) := e
      cases e
      rfl
    subst e1
    obtain ⟨a, ys, e, s, q⟩ := q
    exact ⟨a, ys, e, s.sql, q⟩
  | v x =>
    cases x with
    | ro vs =>
      have e1 : vs = xs := by
        have e : some (false, vs) = some (false, xs) := e
        cases e
        rfl
      subst e1
      obtain ⟨a, ys, e, s, q⟩ := q
      exact ⟨a, ys, e, s.sql, q⟩
    | scr vs =>
      have e1 : vs = xs := by
        have e : some (false, vs) = some (false, xs) := e
        cases e
        rfl
      subst e1
      obtain ⟨a, ys, e, s, q⟩ := q
      exact ⟨a, ys, e, s.sql, q⟩
    | obj n =>
      have e : (match h[n]? with
        | some (.lst vs) => some (false, vs)
        | _ => none) = some (false, xs) := e
      split at e
      · rename_i vs hn
        cases e
        obtain ⟨hk, ev⟩ := q
        obtain ⟨ys, e1, q1⟩ := R.obj n _ hn
        exact ⟨_, ys, ev, .of e1, q1⟩
      · cases e
    | _ => cases e
end

/-! ### the rules -/
section
variable {X : Cx} {W : WX} {pos : Pos}
abbrev PEs (X : Cx) (W : WX) (e : Expr) (f : E) : Prop := PE X e (tE X.K X.mg W f)
abbrev PTs' (X : Cx) (W : WX) (e : Expr) (f : T) : Prop := PT X e (tT X.K X.mg W f)
abbrev PAs (X : Cx) (W : WX) (es : List Expr) (f : A) : Prop := PA X es (tA X.K X.mg W f)
theorem PE.weak {e : Expr} {t t' : TE} (p : PE X e t) (c : ∀ σ H Q, t' σ H Q → t σ H Q) : PE X e t' := ⟨fun pins s σ H Q I q => p.run pins s σ H Q I (c σ H Q q)⟩
theorem PT.weak {e : Expr} {t t' : TT} (p : PT X e t) (c : ∀ σ H Q, t' σ H Q → t σ H Q) : PT X e t' := ⟨fun pins s σ H Q I q => p.run pins s σ H Q I (c σ H Q q)⟩
theorem PA.weak {e : List Expr} {t t' : TA} (p : PA X e t) (c : ∀ σ H Q, t' σ H Q → t σ H Q) : PA X e t' := ⟨fun pos pins s σ H Q I q => p.run pos pins s σ H Q I (c σ H Q q)⟩
theorem PW.weak {e : Expr} {t t' : TT} (p : PW X e t) (c : ∀ σ H Q, t' σ H Q → t σ H Q) : PW X e t' := ⟨fun wh pins s σ H Q I q => p.run wh pins s σ H Q I (c σ H Q q)⟩

theorem s_int {i : Int} {j : Nat} : PEs X W (.Constant (.int i) j pos) (eC (.int i)) := PE.weak pe_int fun σ H Q ⟨w, r, h, e, R, k⟩ => by
  subst e
  exact k w _ (Le.refl w) R.hp rfl
theorem s_bl {b : Bool} {j : Nat} : PEs X W (.Constant (.bool b) j pos) (eC (.bool b)) := PE.weak pe_bl fun σ H Q ⟨w, r, h, e, R, k⟩ => by
  subst e
  exact k w _ (Le.refl w) R.hp rfl
theorem s_non {j : Nat} : PEs X W (.Constant .none j pos) (eC .none) := PE.weak pe_non fun σ H Q ⟨w, r, h, e, R, k⟩ => by
  subst e
  exact k w _ (Le.refl w) R.hp rfl
theorem s_str {x : Str} {j : Nat} : PEs X W (.Constant (.str x) j pos) (eC (.str x)) := PE.weak pe_str fun σ H Q ⟨w, r, h, e, R, k⟩ => by
  subst e
  exact k w _ (Le.refl w) R.hp rfl
theorem rdSlot_res {K : Frag} {w : Rw} {ow : Addr → Prop} {x : RV} {v : V} (q : RSlot K w ow x v) : RRes K w w (rdSlot x) v := by
  cases x with
  | v x => exact q
  | own xs =>
    obtain ⟨a, ys, e, e1, q, p, u⟩ := q
    exact ⟨a, ys, e, ⟨e1, u⟩, q⟩
  | view xs =>
    obtain ⟨a, ys, e, s, q⟩ := q
    exact ⟨a, ys, e, s.1, q⟩
theorem s_var (i : Nat) {x : Str} (hN : X.N[i]? = some x := by rfl) (hv : Vis X.env.scope x := by first | exact Or.inl rfl | exact Or.inr (Or.inl rfl) | exact Or.inr (Or.inr rfl)) (hd : (x == ("__debug__" : Str)) = false := by decide)
    (hcd : (x == ("__classdict__" : Str)) = false := by decide) : PEs X W (.Name x pos) (eVar i) := PE.weak (pe_var hN hv hd hcd) fun σ H Q ⟨w, r, h, e, R, k⟩ => by
  subst e
  unfold eVar at k
  split at k
  · rename_i y hy
    obtain ⟨v, e1, s⟩ := R.sl i y hy
    exact ⟨v, e1, k w v (Le.refl w) R.hp (rdSlot_res s)⟩
  · exact k.elim

/-- an operation of two values: what it asks, from what ours says -/
def F2Ok (K : Frag) (mg : Mg) (f : F2) (r2 : R2) : Prop := ∀ (w w0 w1 : Rw) (h : Heap) (x y z : RV) (vx vy : V) (Q : VK), RHp K mg w h → RRes K w0 w x vx → RRes K w1 w y vy → f h x y = some z →
  (∀ w' v', Le w w' → RHp K mg w' h → RRes K w w' z v' → Q v' w'.H) → r2 vx vy w.H Q
def F1Ok (K : Frag) (mg : Mg) (f : F1) (r1 : V → Hp → VK → Prop) : Prop := ∀ (w w0 : Rw) (h : Heap) (x z : RV) (vx : V) (Q : VK), RHp K mg w h → RRes K w0 w x vx → f h x = some z →
  (∀ w' v', Le w w' → RHp K mg w' h → RRes K w w' z v' → Q v' w'.H) → r1 vx w.H Q
theorem opt_cut {K : Frag} {mg : Mg} {W : WX} {w : Rw} {h : Heap} {σ : L2.St} {Q : VK} {o : Option RV} (k : EK K mg W w σ Q (opt o h)) : ∃ z, o = some z ∧ ∀ w' v', Le w w' → RHp K mg w' h → RRes K w w' z v' → Q v' w'.H := by
  cases o with
  | none => exact k.elim
  | some z => exact ⟨z, rfl, k⟩
theorem e2_cut {K : Frag} {mg : Mg} {W : WX} {f : F2} {r2 : R2} {fa fb : E} (hf : F2Ok K mg f r2) : ∀ σ H Q, tE K mg W (e2 f fa fb) σ H Q → tOp r2 (tE K mg W fa) (tE K mg W fb) σ H Q := fun σ H Q ⟨w, r, h, e, R, k⟩ => by
  subst e
  refine ⟨w, r, h, rfl, R, EK.cut (fun x h1 w1 v1 l1 R1 q1 k1 => ?_) k⟩
  refine ⟨w1, r, h1, rfl, R.le l1 R1, EK.cut (fun y h2 w2 v2 l2 R2 q2 k2 => ?_) k1⟩
  obtain ⟨z, ez, kz⟩ := opt_cut k2
  exact hf w2 w w1 h2 x y z v1 v2 Q R2 (q1.le R1 l2) q2 ez kz
theorem e1_cut {K : Frag} {mg : Mg} {W : WX} {f : F1} {r1 : V → Hp → VK → Prop} {fa : E} (hf : F1Ok K mg f r1) : ∀ σ H Q, tE K mg W (e1 f fa) σ H Q → tUn r1 (tE K mg W fa) σ H Q := fun σ H Q ⟨w, r, h, e, R, k⟩ => by
  subst e
  refine ⟨w, r, h, rfl, R, EK.cut (fun x h1 w1 v1 l1 R1 q1 k1 => ?_) k⟩
  obtain ⟨z, ez, kz⟩ := opt_cut k1
  exact hf w1 w h1 x z v1 Q R1 q1 ez kz
variable {a b : Expr} {fa fb : E}
theorem s_op {op : Operator} {f : F2} {r2 : R2} (ho : OpR X (PySem.binaryOp op) r2) (hf : F2Ok X.K X.mg f r2) (ha : PEs X W a fa) (hb : PEs X W b fb) : PEs X W (.BinOp a op b pos) (e2 f fa fb) :=
  PE.weak (pe_op ho ha hb) (e2_cut hf)
theorem s_un {op : PySem.UnaryOp} {f : F1} {r1 : V → Hp → VK → Prop} (ho : UnR X (PySem.unaryOp op) r1) (hf : F1Ok X.K X.mg f r1) (ha : PEs X W a fa) : PEs X W (.UnaryOp op a pos) (e1 f fa) :=
  PE.weak (pe_un ho ha) (e1_cut hf)

/-! ### ints -/
theorem fI0_ok {K : Frag} {mg : Mg} {g : Int → Int → V} {g' : Int → Int → Val} (hg : ∀ i j w, RVal K w (g' i j) (g i j)) : F2Ok K mg (fI0 g') (rI0 g) := fun w w0 w1 h x y z vx vy Q R qx qy e k => by
  unfold fI0 at e
  split at e
  · rename_i i j
    cases e
    have e1 : vx = .int i := qx
    have e2 : vy = .int j := qy
    subst e1 e2
    exact ⟨i, j, rfl, rfl, k w _ (Le.refl w) R (hg i j w)⟩
  · cases e
theorem fI_ok {K : Frag} {mg : Mg} {C : Int → Int → Prop} [∀ i j, Decidable (C i j)] {g : Int → Int → V} {g' : Int → Int → Val} (hg : ∀ i j w, RVal K w (g' i j) (g i j)) : F2Ok K mg (fI C g') (rI C g) := fun w w0 w1 h x y z vx vy Q R qx qy e k => by
  unfold fI at e
  split at e
  · rename_i i j
    split at e
    · rename_i c
      cases e
      have e1 : vx = .int i := qx
      have e2 : vy = .int j := qy
      subst e1 e2
      exact ⟨i, j, rfl, rfl, c, k w _ (Le.refl w) R (hg i j w)⟩
    · cases e
  · cases e
theorem s_sub (ha : PEs X W a fa) (hb : PEs X W b fb) : PEs X W (.BinOp a .Sub b pos) (e2 fSub fa fb) := s_op op_sub (fI0_ok fun _ _ _ => rfl) ha hb
theorem s_and (ha : PEs X W a fa) (hb : PEs X W b fb) : PEs X W (.BinOp a .BitAnd b pos) (e2 fAnd fa fb) := s_op op_and (fI0_ok fun _ _ _ => rfl) ha hb
theorem s_or (ha : PEs X W a fa) (hb : PEs X W b fb) : PEs X W (.BinOp a .BitOr b pos) (e2 fOr fa fb) := s_op op_or (fI0_ok fun _ _ _ => rfl) ha hb
theorem s_xor (ha : PEs X W a fa) (hb : PEs X W b fb) : PEs X W (.BinOp a .BitXor b pos) (e2 fXor fa fb) := s_op op_xor (fI0_ok fun _ _ _ => rfl) ha hb
theorem s_shr (ha : PEs X W a fa) (hb : PEs X W b fb) : PEs X W (.BinOp a .RShift b pos) (e2 fShr fa fb) := s_op op_shr (fI_ok fun _ _ _ => rfl) ha hb
theorem s_shl (ha : PEs X W a fa) (hb : PEs X W b fb) : PEs X W (.BinOp a .LShift b pos) (e2 fShl fa fb) := s_op (r2 := rI (fun i j => 0 ≤ j ∧ (PySem.Builtin.Int.intBits i : Int) + j ≤ 2 ^ 27) fun i j => .int (i * 2 ^ j.toNat)) op_shlW (fI_ok (C := fun i j => 0 ≤ j ∧ (PySem.Builtin.Int.intBits i : Int) + j ≤ 2 ^ 27) fun _ _ _ => rfl) ha hb
theorem s_mod (ha : PEs X W a fa) (hb : PEs X W b fb) : PEs X W (.BinOp a .Mod b pos) (e2 fMod fa fb) := s_op op_mod (fI_ok fun _ _ _ => rfl) ha hb
theorem s_div (ha : PEs X W a fa) (hb : PEs X W b fb) : PEs X W (.BinOp a .FloorDiv b pos) (e2 fDiv fa fb) := s_op (r2 := rI (fun _ j => 0 < j ∧ j.natAbs.log2 < 9000) fun i j => .int (i / j)) op_fdivW (fI_ok (C := fun _ j => 0 < j ∧ j.natAbs.log2 < 9000) fun _ _ _ => rfl) ha hb
end
end SM

/-! SMExp2: further expressions. -/
namespace SM
open PySem (Str Expr Pos Operator CmpOp)
open L2 hiding St
section
variable {K : Frag} {mg : Mg} {w w0 w1 w2 : Rw} {h h' : Heap} {a : Addr}
theorem lookL_ok {x : RV} {v : V} {xs : List Val} (R : RHp K mg w h) (q : RRes K w0 w x v) (e : lookL h x = some xs) : ∃ a ys, v = .ref a ∧ w.H a = some (.lst ys) ∧ RVals K w xs ys := by
  cases x with
  | own vs =>
    have e1 : vs = xs := by
      have e : some vs = some xs := e
      cases e
      rfl
    subst e1
    obtain ⟨a, ys, e, _, e1, q, _⟩ := q
    exact ⟨a, ys, e, e1, q⟩
  | view vs =>
    have e1 : vs = xs := by
      have e : some vs = some xs := e
      cases e
      rfl
    subst e1
    obtain ⟨a, ys, e, s, q⟩ := q
    exact ⟨a, ys, e, s.1, q⟩
  | v x =>
    cases x with
    | ro vs =>
      have e1 : vs = xs := by
        have e : some vs = some xs := e
        cases e
        rfl
      subst e1
      obtain ⟨a, ys, e, s, q⟩ := q
      exact ⟨a, ys, e, s.1, q⟩
    | obj n =>
      have e : (match h[n]? with
        | some (.lst vs) => some vs
        | _ => none) = some xs := e
      split at e
      · rename_i vs hn
        cases e
        obtain ⟨hk, ev⟩ := q
        obtain ⟨ys, e1, q1⟩ := R.obj n _ hn
        exact ⟨_, ys, ev, e1, q1⟩
      · cases e
    | _ => cases e
/-- a list of one's own becomes one that stands for good -/
def Rw.drop (w : Rw) (a : Addr) : Rw := w.withP fun b => w.P b ∧ b ≠ a
theorem Le.drop {s : Rw} (l : Le s w) (ha : s.H a = none) : Le s (w.drop a) :=
  ⟨l.n, l.io, l.keep, l.there, fun b o e => ⟨fun z => (l.P b o e).mp z.1, fun z => ⟨(l.P b o e).mpr z, ne_of_none e ha⟩⟩, l.new⟩
theorem RHp.drop (R : RHp K mg w h) (u : w.out a) : RHp K mg (w.drop a) h :=
  ⟨R.len, fun k o e => (R.obj k o e).antiP fun _ z => z.1, R.inj, fun k hk => ⟨R.inP k hk, u k hk⟩, fun b z => R.ph b z.1⟩
theorem RRes.arg (R : RHp K mg w h) {s : Rw} {x : RV} {v : V} (l : Le s w) (q : RRes K s w x v) : ∃ w', w'.H = w.H ∧ Le s w' ∧ RHp K mg w' h ∧ RRes K w' w' x.arg v ∧ (∀ y u, RRes K w w y u → y.arg = y → RRes K w' w' y u) := by
  cases x with
  | v x => exact ⟨w, rfl, l, R, q, fun y u z e => by
      cases y with
      | own _ => cases e
      | v y => exact z
      | view y => exact z⟩
  | view xs => exact ⟨w, rfl, l, R, q, fun y u z e => by
      cases y with
      | own _ => cases e
      | v y => exact z
      | view y => exact z⟩
  | own xs =>
    obtain ⟨a, ys, e, e0, e1, q, p, u⟩ := q
    refine ⟨w.drop a, rfl, l.drop e0, R.drop u, ⟨a, ys, e, ⟨e1, fun z => z.2 rfl⟩, q.antiP fun _ z => z.1⟩, fun y u z e => ?_⟩
    cases y with
    | own _ => cases e
    | v y => exact RVal.antiP (fun _ z => z.1) z
    | view y =>
      obtain ⟨b, zs, eb, s, q⟩ := z
      exact ⟨b, zs, eb, s, q.antiP fun _ z => z.1⟩
theorem arg_arg (x : RV) : x.arg.arg = x.arg := by cases x <;> rfl
theorem RArgs.of_le (R : RHp K mg w h) (l : Le w w1) : ∀ {xs : List RV} {vs : List V}, RArgs K w xs vs → RArgs K w1 xs vs
  | [], _, q => q
  | x :: _, _, ⟨v, r, e, q1, q2⟩ => by
    refine ⟨v, r, e, ?_, RArgs.of_le R l q2⟩
    have q := q1.le R l
    cases x with
    | v x => exact q
    | view x => exact q
    | own x =>
      obtain ⟨a, ys, e, e0, e1, _⟩ := q1
      rw [e0] at e1
      cases e1
theorem keeps_ok : ∀ {rs : List RV} {xs : List Val} {vs : List V}, RArgs K w rs vs → keeps rs = some xs → RVals K w xs vs
  | [], xs, vs, q, e => by
    have e1 : vs = [] := q
    have e2 : some [] = some xs := e
    cases e2
    exact e1
  | r :: rs, xs, vs, ⟨v, r', e, q1, q2⟩, e2 => by
    subst e
    unfold keeps at e2
    split at e2
    · rename_i y ys h1 h2
      cases e2
      refine ⟨v, r', rfl, ?_, keeps_ok q2 h2⟩
      cases r with
      | v x =>
        have h1 : some x = some y := h1
        cases h1
        exact q1
      | view _ => cases h1
      | own zs =>
        obtain ⟨a, ys, e, e0, e1, _⟩ := q1
        rw [e0] at e1
        cases e1
    · cases e2
end
section
variable {X : Cx} {W : WX} {pos : Pos} {a b : Expr} {fa fb : E} {es : List Expr} {fs : A}
theorem sa_nil : PAs X W [] aNil := PA.weak pa_nil fun σ H Q ⟨w, r, h, e, R, k⟩ => by
  subst e
  exact k w [] (Le.refl w) R.hp rfl
theorem sa_cons (ha : PEs X W a fa) (hr : PAs X W es fs) (hs : PySem.starEach (a :: es) X.env = (false, PySem.eval a X.env) :: PySem.starEach es X.env := by rfl) : PAs X W (a :: es) (aCons fa fs) :=
  PA.weak (pa_cons ha hr hs) fun σ H Q ⟨w, r, h, e, R, k⟩ => by
    subst e
    refine ⟨w, r, h, rfl, R, EK.cutA0 (fun x h1 w1 v1 l1 R1 q1 k1 => ?_) k⟩
    obtain ⟨w', eH, l', R', q', _⟩ := q1.arg R1 l1
    refine ⟨w', r, h1, eH, R.le l' R', AK.cutA (fun xs h2 w2 vs l2 R2 q2 k2 => ?_) (AK.le l' k1)⟩
    refine k2 w2 (v1 :: vs) (Le.refl w2) R2 ⟨v1, vs, rfl, ?_, q2⟩
    have q := q'.le R' l2
    cases x with
    | v x => exact q
    | view x => exact q
    | own x => exact q
theorem s_tup {n : Nat} (ha : PAs X W es fs) : PEs X W (.Tuple es n pos) (eTup fs) := PE.weak (pe_tup ha) fun σ H Q ⟨w, r, h, e, R, k⟩ => by
  subst e
  refine ⟨w, r, h, rfl, R, AK.cut (fun rs h1 w1 vs l1 R1 q1 k1 => ?_) k⟩
  split at k1
  · rename_i xs hx
    split at k1
    · rename_i hz
      have q := keeps_ok q1 hx
      refine ⟨by rw [← q.length]; exact hz, fun p hp => ?_⟩
      exact k1 (w1.newT p vs) _ (Le.newT hp) (R1.newT hp) (res_newT R1 hp q)
    · exact k1.elim
  · exact k1.elim
theorem s_lst (ha : PAs X W es fs) : PEs X W (.List es pos) (eLst fs) := PE.weak (pe_lst ha) fun σ H Q ⟨w, r, h, e, R, k⟩ => by
  subst e
  refine ⟨w, r, h, rfl, R, AK.cut (fun rs h1 w1 vs l1 R1 q1 k1 => ?_) k⟩
  split at k1
  · rename_i xs hx
    split at k1
    · rename_i hz
      have q := keeps_ok q1 hx
      refine ⟨by rw [← q.length]; exact hz, fun p hp => ?_⟩
      exact k1 (w1.newL p vs) _ (Le.newL hp R1) (R1.newL hp) (res_newL R1 hp q)
    · exact k1.elim
  · exact k1.elim

/-! ### + and * -/
theorem fAdd_ok {K : Frag} {mg : Mg} : F2Ok K mg fAdd (fun x y H Q => rI0 (fun i j => .int (i + j)) x y H Q ∨ (∃ i j, x = .str i ∧ y = .str j ∧ i.length + j.length ≤ PySem.sizeLine ∧ Q (.str (i ++ j)) H) ∨ rCatA K x y H Q ∨ rCat x y H Q) :=
  fun w w0 w1 h x y z vx vy Q R qx qy e k => by
    unfold fAdd at e
    split at e
    · rename_i i j
      cases e
      have e1 : vx = .int i := qx
      have e2 : vy = .int j := qy
      subst e1 e2
      exact .inl ⟨i, j, rfl, rfl, k w _ (Le.refl w) R rfl⟩
    · rename_i i j
      split at e
      · rename_i hz
        cases e
        have e1 : vx = .str i := qx
        have e2 : vy = .str j := qy
        subst e1 e2
        exact .inr (.inl ⟨i, j, rfl, rfl, hz, k w _ (Le.refl w) R rfl⟩)
      · cases e
    · rename_i a b
      split at e
      · rename_i hz
        cases e
        obtain ⟨p, xs, e1, s1, q1⟩ := qx
        obtain ⟨p2, ys, e2, s2, q2⟩ := qy
        subst e1 e2
        refine .inr (.inr (.inl ⟨p, p2, xs, ys, rfl, rfl, s1.sqt, s2.sqt, by rw [← q1.length, ← q2.length]; exact hz, fun e0 => ?_, fun _ e0 => ?_, fun _ _ t ht => ?_⟩))
        · have ea : a = [] := List.eq_nil_of_length_eq_zero (by rw [q1.length, e0]; rfl)
          subst ea
          exact k w _ (Le.refl w) R ⟨p2, ys, rfl, s2, q2⟩
        · have eb : b = [] := List.eq_nil_of_length_eq_zero (by rw [q2.length, e0]; rfl)
          subst eb
          rw [List.append_nil] at k
          exact k w _ (Le.refl w) R ⟨p, xs, rfl, s1, q1⟩
        · exact k (w.newT t _) _ (Le.newT ht) (R.newT ht) (res_newT R ht (q1.append q2))
      · cases e
    · split at e
      · rename_i a b ha hb
        split at e
        · rename_i hz
          cases e
          obtain ⟨p, xs, e1, s1, q1⟩ := lookL_ok R qx ha
          obtain ⟨p2, ys, e2, s2, q2⟩ := lookL_ok R qy hb
          subst e1 e2
          refine .inr (.inr (.inr ⟨p, p2, xs, ys, rfl, rfl, s1, s2, by rw [← q1.length, ← q2.length]; exact hz, fun t ht => ?_⟩))
          exact k (w.newL t _) _ (Le.newL ht R) (R.newL ht) (res_newL R ht (q1.append q2))
        · cases e
      · cases e
theorem s_add (ha : PEs X W a fa) (hb : PEs X W b fb) : PEs X W (.BinOp a .Add b pos) (e2 fAdd fa fb) := s_op (op_add.or (op_add_str.or (op_catA.or op_cat))) fAdd_ok ha hb
theorem fMul_ok {K : Frag} {mg : Mg} : F2Ok K mg fMul (fun x y H Q => rI CMulX (fun i j => .int (i * j)) x y H Q ∨ rRepT K x y H Q ∨ rRep x y H Q) :=
  fun w w0 w1 h x y z vx vy Q R qx qy e k => by
    unfold fMul at e
    split at e
    · rename_i i j
      split at e
      · rename_i c
        cases e
        have e1 : vx = .int i := qx
        have e2 : vy = .int j := qy
        subst e1 e2
        exact .inl ⟨i, j, rfl, rfl, c, k w _ (Le.refl w) R rfl⟩
      · cases e
    · rename_i a i
      split at e
      · rename_i c
        cases e
        have e2 : vy = .int i := qy
        obtain ⟨p, xs, e1, s1, q1⟩ := qx
        subst e1 e2
        obtain ⟨c1, c2, c3, c4⟩ := c
        refine .inr (.inl ⟨p, i, xs, rfl, rfl, s1.sqt, fun e0 => ?_, c2, c3, by rw [← q1.length]; exact c4, fun t ht => ?_⟩)
        · have ea : a = [] := List.eq_nil_of_length_eq_zero (by rw [q1.length, e0]; rfl)
          subst ea
          cases c1
        · exact k (w.newT t _) _ (Le.newT ht) (R.newT ht) (res_newT R ht (q1.flatten_rep _))
      · cases e
    · rename_i i _ _
      split at e
      · rename_i a ha
        split at e
        · rename_i c
          cases e
          have e2 : vy = .int i := qy
          obtain ⟨p, xs, e1, s1, q1⟩ := lookL_ok R qx ha
          subst e1 e2
          obtain ⟨c1, c2, c3⟩ := c
          refine .inr (.inr ⟨p, i, xs, rfl, rfl, s1, c1, c2, by rw [← q1.length]; exact c3, fun t ht => ?_⟩)
          exact k (w.newL t _) _ (Le.newL ht R) (R.newL ht) (res_newL R ht (q1.flatten_rep _))
        · cases e
      · cases e
    · cases e
theorem s_mul (ha : PEs X W a fa) (hb : PEs X W b fb) : PEs X W (.BinOp a .Mult b pos) (e2 fMul fa fb) := s_op (op_mulX.or (op_repT.or op_rep)) fMul_ok ha hb

/-! ### a place -/
theorem RVals.atI {K : Frag} {w : Rw} {xs : List Val} {vs : List V} (q : RVals K w xs vs) {i : Int} {x : Val} (e : L2.atI xs i = some x) : ∃ v, L2.atI vs i = some v ∧ RVal K w x v := by
  unfold L2.atI at e ⊢
  rw [q.length] at e
  cases hj : ixN vs.length i with
  | none =>
    rw [hj] at e
    cases e
  | some j =>
    rw [hj] at e
    exact q.get e
theorem fIx_ok {K : Frag} {mg : Mg} : F2Ok K mg fIx (rIx K) := fun w w0 w1 h x y z vx vy Q R qx qy e k => by
  unfold fIx at e
  split at e
  · rename_i i
    have e2 : vy = .int i := qy
    subst e2
    split at e
    · rename_i t
      split at e
      · rename_i hz
        rw [Option.map_eq_some_iff] at e
        obtain ⟨c, hc, ez⟩ := e
        subst ez
        have e1 : vx = .str t := qx
        subst e1
        exact .inr (.inr ⟨t, i, c, rfl, rfl, hz, hc, k w _ (Le.refl w) R rfl⟩)
      · cases e
    · split at e
      · rename_i tp xs hl
        rw [Option.map_eq_some_iff] at e
        obtain ⟨c, hc, ez⟩ := e
        subst ez
        cases tp with
        | true =>
          obtain ⟨p, ys, e1, s, q, _⟩ := look_tup R qx hl
          subst e1
          obtain ⟨v, hv, qv⟩ := q.atI hc
          exact .inr (.inl ⟨p, ys, i, v, rfl, rfl, s, hv, k w _ (Le.refl w) R qv⟩)
        | false =>
          obtain ⟨p, ys, e1, s, q⟩ := look_lst R qx hl
          subst e1
          obtain ⟨v, hv, qv⟩ := q.atI hc
          exact .inl ⟨p, ys, i, v, rfl, rfl, s, hv, k w _ (Le.refl w) R qv⟩
      · cases e
  · cases e
theorem s_ix (ha : PEs X W a fa) (hb : PEs X W b fb) (hs : PlainIx b := by exact fun _ _ => rfl) : PEs X W (.Subscript a b pos) (e2 fIx fa fb) := PE.weak (pe_ix ix_seq ha hb hs) (e2_cut fIx_ok)

theorem s_neg (ha : PEs X W a fa) : PEs X W (.UnaryOp .USub a pos) (e1 fNeg fa) := s_un un_neg (fun w w0 h x z vx Q R qx e k => by
  unfold fNeg at e
  split at e
  · rename_i i
    cases e
    have e1 : vx = .int i := qx
    subst e1
    exact ⟨i, rfl, k w _ (Le.refl w) R rfl⟩
  · cases e) ha
theorem s_inv (ha : PEs X W a fa) : PEs X W (.UnaryOp .Invert a pos) (e1 fInv fa) := s_un un_inv (fun w w0 h x z vx Q R qx e k => by
  unfold fInv at e
  split at e
  · rename_i i
    cases e
    have e1 : vx = .int i := qx
    subst e1
    exact ⟨i, rfl, k w _ (Le.refl w) R rfl⟩
  · cases e) ha
/-! ### comparisons of ints -/
theorem s_cmp {op : CmpOp} {f : F2} {r2 : R2} (ho : OpR X (PySem.compareOp op) r2) (hf : F2Ok X.K X.mg f r2) (hm : PySem.behindInMarks op b = false) (ha : PEs X W a fa) (hb : PEs X W b fb) : PEs X W (.Compare a [op] [b] pos) (e2 f fa fb) :=
  PE.weak (pe_cmpR ho ha hb hm) (e2_cut hf)
theorem s_lt (ha : PEs X W a fa) (hb : PEs X W b fb) : PEs X W (.Compare a [.Lt] [b] pos) (e2 fLt fa fb) := s_cmp op_lt (fI0_ok fun _ _ _ => rfl) (nomark _) ha hb
theorem s_le (ha : PEs X W a fa) (hb : PEs X W b fb) : PEs X W (.Compare a [.LtE] [b] pos) (e2 fLe fa fb) := s_cmp op_le (fI0_ok fun _ _ _ => rfl) (nomark _) ha hb
theorem s_gt (ha : PEs X W a fa) (hb : PEs X W b fb) : PEs X W (.Compare a [.Gt] [b] pos) (e2 fGt fa fb) := s_cmp op_gt (fI0_ok fun _ _ _ => rfl) (nomark _) ha hb
theorem s_ge (ha : PEs X W a fa) (hb : PEs X W b fb) : PEs X W (.Compare a [.GtE] [b] pos) (e2 fGe fa fb) := s_cmp op_ge (fI0_ok fun _ _ _ => rfl) (nomark _) ha hb
end
end SM

/-! SMExp3: equality, membership, built-ins, tests. -/
namespace SM
open PySem (Str Expr Pos Operator CmpOp PyData)
open L2 hiding St
section
variable {K : Frag} {mg : Mg} {w w0 w1 w2 : Rw} {h h' : Heap} {a : Addr}
mutual
theorem toD_ok : ∀ {x : Val} {v : V} {d : PyData}, RVal K w x v → toD x = some d → Dp K w.H v d
  | .none, v, d, q, e => by
    have e1 : v = .non := q
    have e2 : some PyData.none = some d := e
    cases e2
    subst e1
    exact .non
  | .bool b, v, d, q, e => by
    have e1 : v = .bl b := q
    have e2 : some (PyData.bool b) = some d := e
    cases e2
    subst e1
    exact .bl b
  | .int b, v, d, q, e => by
    have e1 : v = .int b := q
    have e2 : some (PyData.int b) = some d := e
    cases e2
    subst e1
    exact .int b
  | .str b, v, d, q, e => by
    have e1 : v = .str b := q
    have e2 : some (PyData.str b) = some d := e
    cases e2
    subst e1
    exact .str b
  | .tup vs, v, d, ⟨a, xs, e1, s, q⟩, e => by
    have e2 : (toDs vs).map PyData.tuple = some d := e
    rw [Option.map_eq_some_iff] at e2
    obtain ⟨ds, h1, h2⟩ := e2
    subst e1 h2
    exact .tup s.sqt (toDs_ok q h1)
  | .ro vs, v, d, ⟨a, xs, e1, s, q⟩, e => by
    have e2 : (toDs vs).map PyData.list = some d := e
    rw [Option.map_eq_some_iff] at e2
    obtain ⟨ds, h1, h2⟩ := e2
    subst e1 h2
    exact .lst s.sql (toDs_ok q h1)
  | .scr _, _, _, _, e => nomatch (show Option.none = Option.some _ from e)
  | .obj _, _, _, _, e => nomatch (show Option.none = Option.some _ from e)
theorem toDs_ok : ∀ {xs : List Val} {vs : List V} {ds : List PyData}, RVals K w xs vs → toDs xs = some ds → DpAll K w.H vs ds
  | [], vs, ds, q, e => by
    have e1 : vs = [] := q
    have e2 : some [] = some ds := e
    cases e2
    subst e1
    exact .nil
  | x :: xs, vs, ds, ⟨y, ys, e1, q1, q2⟩, e => by
    have e2 : (match toD x, toDs xs with
      | some d, some ds => some (d :: ds)
      | _, _ => none) = some ds := e
    split at e2
    · rename_i d es h1 h2
      cases e2
      subst e1
      exact .cons (toD_ok q1 h1) (toDs_ok q2 h2)
    · cases e2
end
theorem toDR_ok {x : RV} {v : V} {d : PyData} (R : RHp K mg w h) (q : RRes K w0 w x v) (e : toDR h x = some d) : Dp K w.H v d := by
  have lst : ∀ {vs : List Val}, lookL h x = some vs → (toDs vs).map PyData.list = some d → Dp K w.H v d := fun {vs} hl e => by
    rw [Option.map_eq_some_iff] at e
    obtain ⟨ds, h1, h2⟩ := e
    obtain ⟨p, ys, e1, s, q1⟩ := lookL_ok R q hl
    subst e1 h2
    exact .lst (.of s) (toDs_ok q1 h1)
  cases x with
  | own vs => exact lst rfl e
  | view vs => exact lst rfl e
  | v x =>
    cases x with
    | obj n =>
      have e : (match h[n]? with
        | some (.lst vs) => (toDs vs).map PyData.list
        | _ => none) = some d := e
      split at e
      · rename_i vs hn
        refine lst (vs := vs) ?_ e
        show (match h[n]? with
          | some (.lst vs) => some vs
          | _ => none) = some vs
        rw [hn]
      · cases e
    | _ => exact toD_ok q e
theorem fEq_ok : F2Ok K mg (fEq false) (rEqD K) := fun w w0 w1 h x y z vx vy Q R qx qy e k => by
  unfold fEq at e
  split at e
  · rename_i d d2 h1 h2
    split at e
    · rename_i c
      cases e
      exact ⟨d, d2, toDR_ok R qx h1, toDR_ok R qy h2, c.1, c.2, k w _ (Le.refl w) R rfl⟩
    · cases e
  · cases e
theorem fNe_ok : F2Ok K mg (fEq true) (rNeD K) := fun w w0 w1 h x y z vx vy Q R qx qy e k => by
  unfold fEq at e
  split at e
  · rename_i d d2 h1 h2
    split at e
    · rename_i c
      cases e
      exact ⟨d, d2, toDR_ok R qx h1, toDR_ok R qy h2, c.1, c.2, k w _ (Le.refl w) R rfl⟩
    · cases e
  · cases e
theorem flat_ok {x : Val} {v : V} (q : RVal K w x v) (f : flat x = true) : flatV v = true := by
  cases x with
  | none => have e : v = .non := q; subst e; rfl
  | bool b => have e : v = .bl b := q; subst e; rfl
  | int b => have e : v = .int b := q; subst e; rfl
  | str b => have e : v = .str b := q; subst e; rfl
  | _ => cases f
theorem flats_ok : ∀ {xs : List Val} {vs : List V}, RVals K w xs vs → xs.all flat = true → vs.all flatV = true
  | [], vs, q, _ => by
    have e : vs = [] := q
    subst e
    rfl
  | x :: xs, vs, ⟨y, ys, e, q1, q2⟩, f => by
    subst e
    rw [List.all_cons, Bool.and_eq_true] at f ⊢
    exact ⟨flat_ok q1 f.1, flats_ok q2 f.2⟩
theorem eqF_ok {x y : Val} {v u : V} (q : RVal K w x v) (q2 : RVal K w y u) (f : flat x = true) (f2 : flat y = true) : eqV v u = eqF x y := by
  cases x with
  | none =>
    have e : v = .non := q
    subst e
    cases y with
    | none => have e : u = .non := q2; subst e; rfl
    | bool b => have e : u = .bl b := q2; subst e; rfl
    | int b => have e : u = .int b := q2; subst e; rfl
    | str b => have e : u = .str b := q2; subst e; rfl
    | _ => cases f2
  | bool a =>
    have e : v = .bl a := q
    subst e
    cases y with
    | none => have e : u = .non := q2; subst e; rfl
    | bool b => have e : u = .bl b := q2; subst e; rfl
    | int b => have e : u = .int b := q2; subst e; rfl
    | str b => have e : u = .str b := q2; subst e; rfl
    | _ => cases f2
  | int a =>
    have e : v = .int a := q
    subst e
    cases y with
    | none => have e : u = .non := q2; subst e; rfl
    | bool b => have e : u = .bl b := q2; subst e; rfl
    | int b => have e : u = .int b := q2; subst e; rfl
    | str b => have e : u = .str b := q2; subst e; rfl
    | _ => cases f2
  | str a =>
    have e : v = .str a := q
    subst e
    cases y with
    | none => have e : u = .non := q2; subst e; rfl
    | bool b => have e : u = .bl b := q2; subst e; rfl
    | int b => have e : u = .int b := q2; subst e; rfl
    | str b => have e : u = .str b := q2; subst e; rfl
    | _ => cases f2
  | _ => cases f
theorem anyF_ok {x : Val} {v : V} (q : RVal K w x v) (f : flat x = true) : ∀ {xs : List Val} {vs : List V}, RVals K w xs vs → xs.all flat = true → (vs.any fun y => eqV y v) = xs.any fun z => eqF z x
  | [], vs, q, _ => by
    have e : vs = [] := q
    subst e
    rfl
  | z :: xs, vs, ⟨y, ys, e, q1, q2⟩, g => by
    subst e
    rw [List.all_cons, Bool.and_eq_true] at g
    rw [List.any_cons, List.any_cons, eqF_ok q1 q g.1 f, anyF_ok q f q2 g.2]
abbrev rInAny (K : Frag) (neg : Bool) : R2 := fun x y H Q => (∃ (c : Nat) (z : Str), x = .str ⟨#[c]⟩ ∧ y = .str z ∧ Q (.bl (if neg then !decide (c ∈ z.cps.toList) else decide (c ∈ z.cps.toList))) H) ∨ rIn K neg x y H Q
theorem fIn_ok {neg : Bool} : F2Ok K mg (fIn neg) (rInAny K neg) := fun w w0 w1 h x y z vx vy Q R qx qy e k => by
  unfold fIn at e
  split at e
  · rename_i x
    split at e
    · rename_i t
      split at e
      · rename_i c
        split at e
        · rename_i n hc
          cases e
          have e1 : vx = .str c := qx
          have e2 : vy = .str t := qy
          subst e1 e2
          refine .inl ⟨n, t, ?_, rfl, k w _ (Le.refl w) R rfl⟩
          have : c.cps = #[n] := by
            cases hcc : c.cps with
            | mk l =>
              rw [hcc] at hc
              have hc : l = [n] := hc
              rw [hc]
          cases c
          simp only at this
          rw [this]
        · cases e
      · cases e
    · split at e
      · rename_i tp xs hl
        split at e
        · rename_i c
          cases e
          cases tp with
          | true =>
            obtain ⟨p, ys, e1, s, q, _⟩ := look_tup R qy hl
            subst e1
            refine .inr ⟨p, ys, rfl, .inr s, flat_ok qx c.1, flats_ok q c.2, ?_⟩
            unfold inV
            rw [anyF_ok qx c.1 q c.2]
            exact k w _ (Le.refl w) R rfl
          | false =>
            obtain ⟨p, ys, e1, s, q⟩ := look_lst R qy hl
            subst e1
            refine .inr ⟨p, ys, rfl, .inl s, flat_ok qx c.1, flats_ok q c.2, ?_⟩
            unfold inV
            rw [anyF_ok qx c.1 q c.2]
            exact k w _ (Le.refl w) R rfl
        · cases e
      · cases e
  · cases e
theorem tyName_ok {x : RV} {v : V} {t : String} (R : RHp K mg w h) (q : RRes K w0 w x v) (e : tyName h x = some t) : TyX K w.H v (.type t) := by
  have lst : ∀ {vs : List Val}, lookL h x = some vs → TyX K w.H v (.type "list") := fun {vs} hl => by
    obtain ⟨p, ys, e1, s, q⟩ := lookL_ok R q hl
    subst e1
    exact .base (.lst s)
  cases x with
  | own vs =>
    have e1 : some "list" = some t := e
    cases e1
    exact lst rfl
  | view vs =>
    have e1 : some "list" = some t := e
    cases e1
    exact lst rfl
  | v x =>
    cases x with
    | none =>
      have e1 : some "NoneType" = some t := e
      have e2 : v = .non := q
      cases e1
      subst e2
      exact .base .non
    | bool b =>
      have e1 : some "bool" = some t := e
      have e2 : v = .bl b := q
      cases e1
      subst e2
      exact .base (.bl b)
    | int b =>
      have e1 : some "int" = some t := e
      have e2 : v = .int b := q
      cases e1
      subst e2
      exact .base (.int b)
    | str b =>
      have e1 : some "str" = some t := e
      have e2 : v = .str b := q
      cases e1
      subst e2
      exact .base (.str b)
    | tup vs =>
      have e1 : some "tuple" = some t := e
      cases e1
      obtain ⟨a, xs, e2, s, _⟩ := q
      subst e2
      rcases s with ⟨s | ⟨o, s⟩, _⟩ | ⟨o, its, n, s, c, _⟩
      · exact .base (.tup s)
      · exact .fTuple s
      · exact .kTuple s c
    | ro vs =>
      have e1 : some "list" = some t := e
      cases e1
      exact lst rfl
    | scr vs =>
      have e1 : some "list" = some t := e
      cases e1
      obtain ⟨a, xs, e2, s, _⟩ := q
      subst e2
      rcases s with ⟨s | ⟨o, s⟩, _⟩ | ⟨o, its, n, s, c, _⟩
      · exact .base (.lst s)
      · exact .base (.frz s)
      · exact .kList s c
    | obj n =>
      have e : (match h[n]? with
        | some (.lst _) => some "list"
        | some (.dct _) => some "dict"
        | _ => none) = some t := e
      obtain ⟨hk, ev⟩ := q
      subst ev
      split at e
      · rename_i vs hn
        cases e
        obtain ⟨ys, e1, _⟩ := R.obj n _ hn
        exact .base (.lst e1)
      · rename_i vs hn
        cases e
        obtain ⟨ys, e1, _⟩ := R.obj n _ hn
        exact .base (.dK e1)
      · cases e
theorem truth_ok {x : RV} {v : V} {c : Bool} (R : RHp K mg w h) (q : RRes K w0 w x v) (e : truth h x = some c) : TruV K v w.H c := by
  have seq : ∀ {tp : Bool} {vs : List Val}, look h x = some (tp, vs) → c = !vs.isEmpty → TruV K v w.H c := fun {tp vs} hl ec => by
    cases tp with
    | true =>
      obtain ⟨p, ys, e1, s, q1, _⟩ := look_tup R q hl
      subst e1
      refine .inr (.inl ⟨ys, s, ?_⟩)
      rw [ec]
      have := q1.length
      cases vs <;> cases ys <;> first | rfl | (simp at this)
    | false =>
      obtain ⟨p, ys, e1, s, q1⟩ := look_lst R q hl
      subst e1
      refine .inl ⟨ys, s, ?_⟩
      rw [ec]
      have := q1.length
      cases vs <;> cases ys <;> first | rfl | (simp at this)
  have gen : (match look h x with
    | some (_, xs) => some (!xs.isEmpty)
    | none => none) = some c → TruV K v w.H c := fun e => by
    split at e
    · rename_i tp vs hl
      cases e
      exact seq hl rfl
    · cases e
  cases x with
  | own vs => exact gen e
  | view vs => exact gen e
  | v x =>
    cases x with
    | none =>
      have e1 : some false = some c := e
      have e2 : v = .non := q
      cases e1
      subst e2
      exact rfl
    | bool b =>
      have e1 : some b = some c := e
      have e2 : v = .bl b := q
      cases e1
      subst e2
      exact rfl
    | int b =>
      have e1 : some (b != 0) = some c := e
      have e2 : v = .int b := q
      cases e1
      subst e2
      exact rfl
    | str b =>
      have e1 : (if b.length ≤ line then some ((b.length : Int) != 0) else none) = some c := e
      have e2 : v = .str b := q
      subst e2
      split at e1
      · rename_i hz
        cases e1
        exact ⟨hz, rfl⟩
      · cases e1
    | _ => exact gen e
end
section
variable {X : Cx} {W : WX} {pos : Pos} {a b c : Expr} {fa fb fc : E} {es : List Expr} {fs : A}
theorem s_eq (hu : X.A.units + 64 < PySem.cLine) (ha : PEs X W a fa) (hb : PEs X W b fb) : PEs X W (.Compare a [.Eq] [b] pos) (e2 (fEq false) fa fb) := s_cmp (op_eqD hu) fEq_ok (nomark _) ha hb
theorem s_ne (hu : X.A.units + 64 < PySem.cLine) (ha : PEs X W a fa) (hb : PEs X W b fb) : PEs X W (.Compare a [.NotEq] [b] pos) (e2 (fEq true) fa fb) := s_cmp (op_neD hu) fNe_ok (nomark _) ha hb
theorem s_in (ha : PEs X W a fa) (hb : PEs X W b fb) (hm : PySem.behindInMarks .In b = false := by rfl) : PEs X W (.Compare a [.In] [b] pos) (e2 (fIn false) fa fb) := s_cmp (op_in_sign.or op_in_seq) (fIn_ok (neg := false)) hm ha hb
theorem s_nin (ha : PEs X W a fa) (hb : PEs X W b fb) (hm : PySem.behindInMarks .NotIn b = false := by rfl) : PEs X W (.Compare a [.NotIn] [b] pos) (e2 (fIn true) fa fb) := s_cmp (op_notIn_sign.or op_notIn_seq) (fIn_ok (neg := true)) hm ha hb
theorem none_res {K : Frag} {w w0 : Rw} {x : RV} {v : V} (q : RRes K w0 w x v) : decide (v = .non) = (match x with
    | .v .none => true
    | _ => false) := by
  cases x with
  | own vs => obtain ⟨a, ys, e, _⟩ := q; subst e; rfl
  | view vs => obtain ⟨a, ys, e, _⟩ := q; subst e; rfl
  | v x =>
    cases x with
    | none => have e : v = .non := q; subst e; rfl
    | bool b => have e : v = .bl b := q; subst e; rfl
    | int b => have e : v = .int b := q; subst e; rfl
    | str b => have e : v = .str b := q; subst e; rfl
    | tup vs => obtain ⟨a, ys, e, _⟩ := q; subst e; rfl
    | ro vs => obtain ⟨a, ys, e, _⟩ := q; subst e; rfl
    | scr vs => obtain ⟨a, ys, e, _⟩ := q; subst e; rfl
    | obj n => obtain ⟨_, e⟩ := q; subst e; rfl
theorem s_isN {j : Nat} {p : Pos} (ha : PEs X W a fa) : PEs X W (.Compare a [.Is] [.Constant .none j p] pos) (e1 (fNone false) fa) := PE.weak (pe_cmp (pc_isN ha) (by exact nomark _)) fun σ H Q ⟨w, r, h, e, R, k⟩ => by
  subst e
  refine ⟨w, r, h, rfl, R, EK.cut (fun x h1 w1 v1 l1 R1 q1 k1 => ?_) k⟩
  obtain ⟨z, ez, kz⟩ := opt_cut k1
  rw [none_res q1]
  unfold fNone at ez
  split at ez
  · cases ez
    exact kz w1 _ (Le.refl w1) R1 rfl
  · rename_i hx
    cases ez
    split
    · exact absurd rfl hx
    · exact kz w1 _ (Le.refl w1) R1 rfl
theorem s_notN {j : Nat} {p : Pos} (ha : PEs X W a fa) : PEs X W (.Compare a [.IsNot] [.Constant .none j p] pos) (e1 (fNone true) fa) := PE.weak (pe_cmp (pc_notN ha) (by exact nomark _)) fun σ H Q ⟨w, r, h, e, R, k⟩ => by
  subst e
  refine ⟨w, r, h, rfl, R, EK.cut (fun x h1 w1 v1 l1 R1 q1 k1 => ?_) k⟩
  obtain ⟨z, ez, kz⟩ := opt_cut k1
  rw [none_res q1]
  unfold fNone at ez
  split at ez
  · cases ez
    exact kz w1 _ (Le.refl w1) R1 rfl
  · rename_i hx
    cases ez
    split
    · exact absurd rfl hx
    · exact kz w1 _ (Le.refl w1) R1 rfl
/-! ### built-ins of one and two values -/
def C1Ok (K : Frag) (mg : Mg) (f : F1) (r1 : List V → Hp → VK → Prop) : Prop := ∀ (w w0 : Rw) (h : Heap) (x z : RV) (vx : V) (Q : VK), RHp K mg w h → RRes K w0 w x vx → f h x = some z →
  (∀ w' v', Le w w' → RHp K mg w' h → RRes K w w' z v' → Q v' w'.H) → r1 [vx] w.H Q
def C2Ok (K : Frag) (mg : Mg) (f : F2) (r2 : List V → Hp → VK → Prop) : Prop := ∀ (w w0 w1 : Rw) (h : Heap) (x y z : RV) (vx vy : V) (Q : VK), RHp K mg w h → RRes K w0 w x vx → RRes K w1 w y vy → f h x y = some z →
  (∀ w' v', Le w w' → RHp K mg w' h → RRes K w w' z v' → Q v' w'.H) → r2 [vx, vy] w.H Q
theorem c1_cut {K : Frag} {mg : Mg} {W : WX} {f : F1} {r1 : List V → Hp → VK → Prop} {fa : E} (hf : C1Ok K mg f r1) : ∀ σ H Q, tE K mg W (e1 f fa) σ H Q → tCB r1 (tCons (tE K mg W fa) tNil) σ H Q := fun σ H Q ⟨w, r, h, e, R, k⟩ => by
  subst e
  refine ⟨w, r, h, rfl, R, EK.cut (fun x h1 w1 v1 l1 R1 q1 k1 => ?_) k⟩
  obtain ⟨z, ez, kz⟩ := opt_cut k1
  exact hf w1 w h1 x z v1 Q R1 q1 ez kz
theorem c2_cut {K : Frag} {mg : Mg} {W : WX} {f : F2} {r2 : List V → Hp → VK → Prop} {fa fb : E} (hf : C2Ok K mg f r2) : ∀ σ H Q, tE K mg W (e2 f fa fb) σ H Q → tCB r2 (tCons (tE K mg W fa) (tCons (tE K mg W fb) tNil)) σ H Q := fun σ H Q ⟨w, r, h, e, R, k⟩ => by
  subst e
  refine ⟨w, r, h, rfl, R, EK.cut (fun x h1 w1 v1 l1 R1 q1 k1 => ?_) k⟩
  refine ⟨w1, r, h1, rfl, R.le l1 R1, EK.cut (fun y h2 w2 v2 l2 R2 q2 k2 => ?_) k1⟩
  obtain ⟨z, ez, kz⟩ := opt_cut k2
  exact hf w2 w w1 h2 x y z v1 v2 Q R2 (q1.le R1 l2) q2 ez kz
variable {p : Pos}
theorem s_len (hg : Gl X "len") (hm : X.mg "len" = none) (ha : PEs X W a fa) (hs : PySem.starEach [a] X.env = (false, PySem.eval a X.env) :: PySem.starEach [] X.env := by rfl) : PEs X W (.Call (.Name "len" p) [a] [] pos) (e1 fLen fa) := PE.weak (pe_callB call_len hg hm PySem.boot_len (pa_cons ha pa_nil hs) (by decide) (by decide) hs) (c1_cut fun w w0 h x z vx Q R qx e k => by
  unfold fLen at e
  split at e
  · rename_i t
    split at e
    · rename_i hz
      cases e
      have e1 : vx = .str t := qx
      subst e1
      exact ⟨_, _, rfl, ⟨hz, rfl⟩, k w _ (Le.refl w) R rfl⟩
    · cases e
  · split at e
    · rename_i tp xs hl
      cases e
      cases tp with
      | true =>
        obtain ⟨p, ys, e1, s, q, _⟩ := look_tup R qx hl
        subst e1
        exact ⟨_, _, rfl, .inr ⟨ys, s, q.length⟩, k w _ (Le.refl w) R rfl⟩
      | false =>
        obtain ⟨p, ys, e1, s, q⟩ := look_lst R qx hl
        subst e1
        exact ⟨_, _, rfl, .inl ⟨ys, s, q.length⟩, k w _ (Le.refl w) R rfl⟩
    · cases e)
theorem s_abs (hg : Gl X "abs") (hm : X.mg "abs" = none) (ha : PEs X W a fa) (hs : PySem.starEach [a] X.env = (false, PySem.eval a X.env) :: PySem.starEach [] X.env := by rfl) : PEs X W (.Call (.Name "abs" p) [a] [] pos) (e1 fAbs fa) := PE.weak (pe_callB call_abs hg hm PyProof.Rows.boot_abs (pa_cons ha pa_nil hs) (by decide) (by decide) hs) (c1_cut fun w w0 h x z vx Q R qx e k => by
  unfold fAbs at e
  split at e
  · rename_i i
    cases e
    have e1 : vx = .int i := qx
    subst e1
    exact ⟨i, rfl, k w _ (Le.refl w) R rfl⟩
  · cases e)
theorem s_toInt (hg : Gl X "int") (hm : X.mg "int" = none) (ha : PEs X W a fa) (hs : PySem.starEach [a] X.env = (false, PySem.eval a X.env) :: PySem.starEach [] X.env := by rfl) : PEs X W (.Call (.Name "int" p) [a] [] pos) (e1 fInt fa) := PE.weak (pe_callTy call_int1 hg hm (by decide +kernel) (pa_cons ha pa_nil hs) (by decide) (by decide) hs) (c1_cut fun w w0 h x z vx Q R qx e k => by
  unfold fInt at e
  split at e
  · rename_i i
    cases e
    have e1 : vx = .int i := qx
    subst e1
    exact .inl ⟨i, rfl, k w _ (Le.refl w) R rfl⟩
  · rename_i i
    cases e
    have e1 : vx = .bl i := qx
    subst e1
    exact .inr ⟨i, rfl, k w _ (Le.refl w) R rfl⟩
  · cases e)
theorem s_list (hg : Gl X "list") (hm : X.mg "list" = none) (ha : PEs X W a fa) (hs : PySem.starEach [a] X.env = (false, PySem.eval a X.env) :: PySem.starEach [] X.env := by rfl) : PEs X W (.Call (.Name "list" p) [a] [] pos) (e1 fList fa) := PE.weak (pe_callTy call_list_of hg hm (by decide +kernel) (pa_cons ha pa_nil hs) (by decide) (by decide) hs) (c1_cut fun w w0 h x z vx Q R qx e k => by
  unfold fList at e
  split at e
  · rename_i tp xs hl
    cases e
    cases tp with
    | true =>
      obtain ⟨p, ys, e1, s, q, _⟩ := look_tup R qx hl
      subst e1
      exact ⟨p, ys, rfl, .inr s, fun t ht => k (w.newL t _) _ (Le.newL ht R) (R.newL ht) (res_newL R ht q)⟩
    | false =>
      obtain ⟨p, ys, e1, s, q⟩ := look_lst R qx hl
      subst e1
      exact ⟨p, ys, rfl, .inl s, fun t ht => k (w.newL t _) _ (Le.newL ht R) (R.newL ht) (res_newL R ht q)⟩
  · cases e)
theorem s_tuple (hg : Gl X "tuple") (hm : X.mg "tuple" = none) (ha : PEs X W a fa) (hs : PySem.starEach [a] X.env = (false, PySem.eval a X.env) :: PySem.starEach [] X.env := by rfl) : PEs X W (.Call (.Name "tuple" p) [a] [] pos) (e1 fTuple fa) := PE.weak (pe_callTy call_tuple_of hg hm (by decide +kernel) (pa_cons ha pa_nil hs) (by decide) (by decide) hs) (c1_cut fun w w0 h x z vx Q R qx e k => by
  unfold fTuple at e
  split at e
  · rename_i tp xs hl
    cases e
    cases tp with
    | true =>
      obtain ⟨p, ys, e1, s, q, ex⟩ := look_tup R qx hl
      subst e1 ex
      exact ⟨p, ys, rfl, .inr ⟨s, k w _ (Le.refl w) R qx⟩⟩
    | false =>
      obtain ⟨p, ys, e1, s, q⟩ := look_lst R qx hl
      subst e1
      exact ⟨p, ys, rfl, .inl ⟨s, fun t ht => k (w.newT t _) _ (Le.newT ht) (R.newT ht) (res_newT R ht q)⟩⟩
  · cases e)
theorem s_max (hc : X.calm = true) (hg : Gl X "max") (hm : X.mg "max" = none) (ha : PEs X W a fa) (hb : PEs X W b fb) (hs : PySem.starEach [a, b] X.env = (false, PySem.eval a X.env) :: PySem.starEach [b] X.env := by rfl) (hs2 : PySem.starEach [b] X.env = (false, PySem.eval b X.env) :: PySem.starEach [] X.env := by rfl) (hpl : (PySem.backTo pos (PySem.starEach [b] X.env)).any (·.1) = false := by rfl) :
    PEs X W (.Call (.Name "max" p) [a, b] [] pos) (e2 fMax fa fb) :=
  PE.weak (pe_callB (call_max2 hc) hg hm (by decide +kernel) (pa_cons ha (pa_cons hb pa_nil hs2) hs) (by decide) (by decide) hs hpl) (c2_cut fun w w0 w1 h x y z vx vy Q R qx qy e k => by
  unfold fMax fI0 at e
  split at e
  · rename_i i j
    cases e
    have e1 : vx = .int i := qx
    have e2 : vy = .int j := qy
    subst e1 e2
    exact ⟨i, j, rfl, k w _ (Le.refl w) R rfl⟩
  · cases e)
theorem s_min (hc : X.calm = true) (hg : Gl X "min") (hm : X.mg "min" = none) (ha : PEs X W a fa) (hb : PEs X W b fb) (hs : PySem.starEach [a, b] X.env = (false, PySem.eval a X.env) :: PySem.starEach [b] X.env := by rfl) (hs2 : PySem.starEach [b] X.env = (false, PySem.eval b X.env) :: PySem.starEach [] X.env := by rfl) (hpl : (PySem.backTo pos (PySem.starEach [b] X.env)).any (·.1) = false := by rfl) :
    PEs X W (.Call (.Name "min" p) [a, b] [] pos) (e2 fMin fa fb) :=
  PE.weak (pe_callB (call_min2 hc) hg hm (by decide +kernel) (pa_cons ha (pa_cons hb pa_nil hs2) hs) (by decide) (by decide) hs hpl) (c2_cut fun w w0 w1 h x y z vx vy Q R qx qy e k => by
  unfold fMin fI0 at e
  split at e
  · rename_i i j
    cases e
    have e1 : vx = .int i := qx
    have e2 : vy = .int j := qy
    subst e1 e2
    exact ⟨i, j, rfl, k w _ (Le.refl w) R rfl⟩
  · cases e)
def KitOk (T : String) : Prop := ∀ t, t ∈ ["NoneType", "bool", "int", "str", "tuple", "list", "dict"] → kitB t T = some (subT t T)
theorem tyName_mem {h : Heap} {x : RV} {t : String} (e : tyName h x = some t) : t ∈ ["NoneType", "bool", "int", "str", "tuple", "list", "dict"] := by
  unfold tyName at e
  split at e <;> first | (cases e; simp; done) | skip
  split at e <;> first | (cases e; simp; done) | cases e
theorem kit_int : KitOk "int" := by unfold KitOk; decide +kernel
theorem kit_bool : KitOk "bool" := by unfold KitOk; decide +kernel
theorem kit_str : KitOk "str" := by unfold KitOk; decide +kernel
theorem kit_tuple : KitOk "tuple" := by unfold KitOk; decide +kernel
theorem kit_list : KitOk "list" := by unfold KitOk; decide +kernel
theorem s_isT {T : Str} {n : String} (hk : KitOk n) (hg : Gl X "isinstance") (hm : X.mg "isinstance" = none) (hgT : Gl X T) (hmT : X.mg T = none) (hvT : PySem.bootBuiltins T = some (.type n)) (ha : PEs X W a fa) {pT : Pos} (hnT : T ≠ "__name__" := by decide) (hdT : (T == ("__debug__" : Str)) = false := by decide)
    (hs : PySem.starEach [a, .Name T pT] X.env = (false, PySem.eval a X.env) :: PySem.starEach [.Name T pT] X.env := by rfl) :
    PEs X W (.Call (.Name "isinstance" p) [a, .Name T pT] [] pos) (e1 (fIs n) fa) :=
  PE.weak (pe_callB call_isi hg hm PyProof.Rows.boot_isinstance (pa_cons ha (pa_cons (pe_bltn (v := .ty n) hgT hmT hvT rfl hnT hdT) pa_nil) hs) (by decide) (by decide) hs) fun σ H Q ⟨w, r, h, e, R, k⟩ => by
    subst e
    refine ⟨w, r, h, rfl, R, EK.cut (fun x h1 w1 v1 l1 R1 q1 k1 => ?_) k⟩
    obtain ⟨z, ez, kz⟩ := opt_cut k1
    unfold fIs at ez
    split at ez
    · rename_i t ht
      cases ez
      exact ⟨v1, .ty n, .type t, .type n, _, rfl, .ty n, tyName_ok R1 q1 ht, kit_ty (hk t (tyName_mem ht)), kz w1 _ (Le.refl w1) R1 rfl⟩
    · cases ez
end
end SM

/-! SMTst: tests, and, or, not, if-expressions, chains, calls. -/
namespace SM
open PySem (Str Expr Pos Operator CmpOp)
open L2 hiding St tB tAnd tOr tNot
section
variable {K : Frag} {mg : Mg} {w w0 w1 w2 : Rw} {h h' : Heap}
theorem tB_cut {W : WX} {f : E} : ∀ σ H Q, tT K mg W (tB f) σ H Q → tE K mg W f σ H (fun x H' => ∃ k, x = .bl k ∧ Q k H') := fun σ H Q ⟨w, r, h, e, R, k⟩ => by
  subst e
  refine ⟨w, r, h, rfl, R, EK.cutT (fun x h1 w1 v1 l1 R1 q1 k1 => ?_) k⟩
  split at k1
  · rename_i b
    have e1 : v1 = .bl b := q1
    subst e1
    exact ⟨b, rfl, k1 w1 (Le.refl w1) R1⟩
  · exact k1.elim
end
section
variable {X : Cx} {W : WX} {pos : Pos} {a b c : Expr} {fa fb fc : E} {ga gb : T} {es rest : List Expr} {fs : A}
/-- a comparison as a test -/
theorem st_cmp {op : CmpOp} {f : F2} {r2 : R2} (ho : OpR X (PySem.compareOp op) r2) (hf : F2Ok X.K X.mg f r2) (hm : PySem.behindInMarks op b = false) (ha : PEs X W a fa) (hb : PEs X W b fb) : PTs' X W (.Compare a [op] [b] pos) (tB (e2 f fa fb)) :=
  PT.weak (pt_cmpR ho ha hb hm) fun σ H Q k => e2_cut hf σ H _ (tB_cut σ H Q k)
theorem st_lt (ha : PEs X W a fa) (hb : PEs X W b fb) : PTs' X W (.Compare a [.Lt] [b] pos) (tB (e2 fLt fa fb)) := st_cmp op_lt (fI0_ok fun _ _ _ => rfl) (nomark _) ha hb
theorem st_le (ha : PEs X W a fa) (hb : PEs X W b fb) : PTs' X W (.Compare a [.LtE] [b] pos) (tB (e2 fLe fa fb)) := st_cmp op_le (fI0_ok fun _ _ _ => rfl) (nomark _) ha hb
theorem st_gt (ha : PEs X W a fa) (hb : PEs X W b fb) : PTs' X W (.Compare a [.Gt] [b] pos) (tB (e2 fGt fa fb)) := st_cmp op_gt (fI0_ok fun _ _ _ => rfl) (nomark _) ha hb
theorem st_ge (ha : PEs X W a fa) (hb : PEs X W b fb) : PTs' X W (.Compare a [.GtE] [b] pos) (tB (e2 fGe fa fb)) := st_cmp op_ge (fI0_ok fun _ _ _ => rfl) (nomark _) ha hb
theorem st_eq (hu : X.A.units + 64 < PySem.cLine) (ha : PEs X W a fa) (hb : PEs X W b fb) : PTs' X W (.Compare a [.Eq] [b] pos) (tB (e2 (fEq false) fa fb)) := st_cmp (op_eqD hu) fEq_ok (nomark _) ha hb
theorem st_ne (hu : X.A.units + 64 < PySem.cLine) (ha : PEs X W a fa) (hb : PEs X W b fb) : PTs' X W (.Compare a [.NotEq] [b] pos) (tB (e2 (fEq true) fa fb)) := st_cmp (op_neD hu) fNe_ok (nomark _) ha hb
theorem st_in (ha : PEs X W a fa) (hb : PEs X W b fb) (hm : PySem.behindInMarks .In b = false := by rfl) : PTs' X W (.Compare a [.In] [b] pos) (tB (e2 (fIn false) fa fb)) := st_cmp (op_in_sign.or op_in_seq) (fIn_ok (neg := false)) hm ha hb
theorem st_nin (ha : PEs X W a fa) (hb : PEs X W b fb) (hm : PySem.behindInMarks .NotIn b = false := by rfl) : PTs' X W (.Compare a [.NotIn] [b] pos) (tB (e2 (fIn true) fa fb)) := st_cmp (op_notIn_sign.or op_notIn_seq) (fIn_ok (neg := true)) hm ha hb
/-- an expression whose value is a bool -/
theorem st_val (ha : PEs X W a fa) (he : ∀ whole, PySem.isTrue a X.env whole = (do let v ← whole; PySem.standAt a.pos; PySem.holding [v] (PySem.truthy v)) := by intro _; rfl) : PTs' X W a (tB fa) :=
  PT.weak (pt_val ha he) fun σ H Q k => tB_cut σ H Q k
/-- comparisons by is, as tests -/
theorem st_is {op : CmpOp} (hp : ∀ {t : TE}, PE X (.Compare a [op] [b] pos) t → PT X (.Compare a [op] [b] pos) (L2.tB t)) (ha : PEs X W (.Compare a [op] [b] pos) fa) : PTs' X W (.Compare a [op] [b] pos) (tB fa) :=
  PT.weak (hp ha) fun σ H Q k => tB_cut σ H Q k
/-- truth of any value -/
theorem st_tru (ha : PEs X W a fa) (he : ∀ whole, PySem.isTrue a X.env whole = (do let v ← whole; PySem.standAt a.pos; PySem.holding [v] (PySem.truthy v)) := by intro _; rfl) : PTs' X W a (tTru fa) :=
  PT.weak (pt_truth ha he) fun σ H Q ⟨w, r, h, e, R, k⟩ => by
    subst e
    refine ⟨w, r, h, rfl, R, EK.cutT (fun x h1 w1 v1 l1 R1 q1 k1 => ?_) k⟩
    cases ht : truth h1 x with
    | none =>
      rw [ht] at k1
      exact k1.elim
    | some c =>
      rw [ht] at k1
      exact ⟨c, truth_ok R1 q1 ht, k1 w1 (Le.refl w1) R1⟩
abbrev PWs (X : Cx) (W : WX) (e : Expr) (f : T) : Prop := PW X e (tT X.K X.mg W f)
theorem sw_and1 (ha : PTs' X W a ga) : PWs X W (.BoolOp .And [a] pos) ga := pw_and1 ha
theorem sw_or1 (ha : PTs' X W a ga) : PWs X W (.BoolOp .Or [a] pos) ga := pw_or1 ha
theorem tAnd_cut {K : Frag} {mg : Mg} : ∀ σ H Q, tT K mg W (tAnd ga gb) σ H Q → L2.tAnd (tT K mg W ga) (tT K mg W gb) σ H Q := fun σ H Q ⟨w, r, h, e, R, k⟩ => by
  subst e
  refine ⟨w, r, h, rfl, R, TK.cutT (fun c h1 w1 l1 R1 k1 => ?_) k⟩
  cases c with
  | true =>
    rw [if_pos rfl] at k1 ⊢
    exact ⟨w1, r, h1, rfl, R.le l1 R1, k1⟩
  | false =>
    rw [if_neg Bool.false_ne_true] at k1 ⊢
    exact k1 w1 (Le.refl w1) R1
theorem tOr_cut {K : Frag} {mg : Mg} : ∀ σ H Q, tT K mg W (tOr ga gb) σ H Q → L2.tOr (tT K mg W ga) (tT K mg W gb) σ H Q := fun σ H Q ⟨w, r, h, e, R, k⟩ => by
  subst e
  refine ⟨w, r, h, rfl, R, TK.cutT (fun c h1 w1 l1 R1 k1 => ?_) k⟩
  cases c with
  | true =>
    rw [if_pos rfl] at k1 ⊢
    exact k1 w1 (Le.refl w1) R1
  | false =>
    rw [if_neg Bool.false_ne_true] at k1 ⊢
    exact ⟨w1, r, h1, rfl, R.le l1 R1, k1⟩
theorem sw_and (ha : PTs' X W a ga) (hb : PWs X W (.BoolOp .And (b :: rest) pos) gb) : PWs X W (.BoolOp .And (a :: b :: rest) pos) (tAnd ga gb) := PW.weak (pw_and ha hb) tAnd_cut
theorem sw_or (ha : PTs' X W a ga) (hb : PWs X W (.BoolOp .Or (b :: rest) pos) gb) : PWs X W (.BoolOp .Or (a :: b :: rest) pos) (tOr ga gb) := PW.weak (pw_or ha hb) tOr_cut
theorem st_not (ha : PTs' X W a ga) : PTs' X W (.UnaryOp .Not a pos) (tNot ga) := PT.weak (pt_not ha) fun σ H Q ⟨w, r, h, e, R, k⟩ => by
  subst e
  exact ⟨w, r, h, rfl, R, TK.cutT (f := fun c h => .ok (!c) h) (fun c h1 w1 l1 R1 k1 => k1 w1 (Le.refl w1) R1) k⟩
/-- as values -/
theorem s_one {op : PySem.BoolOp} (ha : PEs X W a fa) : PEs X W (.BoolOp op [a] pos) fa := pe_one ha
theorem s_andV (ha : PEs X W a fa) (hb : PEs X W (.BoolOp .And (b :: rest) pos) fb) : PEs X W (.BoolOp .And (a :: b :: rest) pos) (eAnd fa fb) := PE.weak (pe_andT ha hb) fun σ H Q ⟨w, r, h, e, R, k⟩ => by
  subst e
  refine ⟨w, r, h, rfl, R, EK.cut0 (fun x h1 w1 v1 l1 R1 q1 k1 => ?_) k⟩
  split at k1
  · rename_i ht
    refine ⟨true, truth_ok R1 q1 ht, ?_⟩
    rw [if_pos rfl]
    exact ⟨w1, r, h1, rfl, R.le l1 R1, EK.le l1 k1⟩
  · rename_i ht
    refine ⟨false, truth_ok R1 q1 ht, ?_⟩
    rw [if_neg Bool.false_ne_true]
    exact k1 w1 v1 l1 R1 q1
  · exact k1.elim
theorem s_orV (ha : PEs X W a fa) (hb : PEs X W (.BoolOp .Or (b :: rest) pos) fb) : PEs X W (.BoolOp .Or (a :: b :: rest) pos) (eOr fa fb) := PE.weak (pe_orT ha hb) fun σ H Q ⟨w, r, h, e, R, k⟩ => by
  subst e
  refine ⟨w, r, h, rfl, R, EK.cut0 (fun x h1 w1 v1 l1 R1 q1 k1 => ?_) k⟩
  split at k1
  · rename_i ht
    refine ⟨true, truth_ok R1 q1 ht, ?_⟩
    rw [if_pos rfl]
    exact k1 w1 v1 l1 R1 q1
  · rename_i ht
    refine ⟨false, truth_ok R1 q1 ht, ?_⟩
    rw [if_neg Bool.false_ne_true]
    exact ⟨w1, r, h1, rfl, R.le l1 R1, EK.le l1 k1⟩
  · exact k1.elim
theorem s_notV (ha : PEs X W a fa) : PEs X W (.UnaryOp .Not a pos) (eNot fa) := PE.weak (pe_notT ha) fun σ H Q ⟨w, r, h, e, R, k⟩ => by
  subst e
  refine ⟨w, r, h, rfl, R, EK.cut (fun x h1 w1 v1 l1 R1 q1 k1 => ?_) k⟩
  split at k1
  · rename_i c ht
    exact ⟨c, truth_ok R1 q1 ht, k1 w1 _ (Le.refl w1) R1 rfl⟩
  · exact k1.elim
theorem s_if (hc : PTs' X W c ga) (ha : PEs X W a fa) (hb : PEs X W b fb) : PEs X W (.IfExp c a b pos) (eIf ga fa fb) := PE.weak (pe_ifExp hc ha hb) fun σ H Q ⟨w, r, h, e, R, k⟩ => by
  subst e
  refine ⟨w, r, h, rfl, R, TK.cut (fun c h1 w1 l1 R1 k1 => ?_) k⟩
  cases c with
  | true =>
    rw [if_pos rfl] at k1 ⊢
    exact ⟨w1, r, h1, rfl, R.le l1 R1, k1⟩
  | false =>
    rw [if_neg Bool.false_ne_true] at k1 ⊢
    exact ⟨w1, r, h1, rfl, R.le l1 R1, k1⟩
theorem chain_cut {K : Frag} {mg : Mg} {f g : F2} {r r' : R2} (hf : F2Ok K mg f r) (hg : F2Ok K mg g r') : ∀ σ H Q, tE K mg W (eChain f g fa fb fc) σ H Q → tChain r r' (tE K mg W fa) (tE K mg W fb) (tE K mg W fc) σ H Q := fun σ H Q ⟨w, r, h, e, R, k⟩ => by
  subst e
  refine ⟨w, r, h, rfl, R, EK.cut (fun x h1 w1 v1 l1 R1 q1 k1 => ?_) k⟩
  refine ⟨w1, r, h1, rfl, R.le l1 R1, EK.cut (fun y h2 w2 v2 l2 R2 q2 k2 => ?_) k1⟩
  split at k2
  · rename_i ez
    refine hf w2 w w1 h2 x y _ v1 v2 _ R2 (q1.le R1 l2) q2 ez fun w3 v3 l3 R3 q3 => ?_
    have e3 : v3 = .bl true := q3
    subst e3
    refine ⟨true, rfl, ?_⟩
    rw [if_pos rfl]
    refine ⟨w3, r, h2, rfl, ((R.le l1 R1).le l2 R2).le l3 R3, EK.cut (fun z h4 w4 v4 l4 R4 q4 k4 => ?_) (EK.le l3 k2)⟩
    obtain ⟨u, eu, ku⟩ := opt_cut k4
    exact hg w4 w1 w3 h4 y z u v2 v4 Q R4 ((q2.le R2 l3).le R3 l4) q4 eu ku
  · rename_i ez
    refine hf w2 w w1 h2 x y _ v1 v2 _ R2 (q1.le R1 l2) q2 ez fun w3 v3 l3 R3 q3 => ?_
    have e3 : v3 = .bl false := q3
    subst e3
    refine ⟨false, rfl, ?_⟩
    rw [if_neg Bool.false_ne_true]
    exact k2 w3 _ l3 R3 rfl
  · exact k2.elim
theorem s_chain {op op' : CmpOp} {f g : F2} {r r' : R2} (ho : OpR X (PySem.compareOp op) r) (ho' : OpR X (PySem.compareOp op') r') (hf : F2Ok X.K X.mg f r) (hg : F2Ok X.K X.mg g r') (ha : PEs X W a fa) (hb : PEs X W b fb) (hc : PEs X W c fc)
    (hm : PySem.lastMarks [op, op'] [b, c] = false := by with_unfolding_all rfl) : PEs X W (.Compare a [op, op'] [b, c] pos) (eChain f g fa fb fc) := PE.weak (pe_chain ho ho' ha hb hc hm) (chain_cut hf hg)
theorem st_chain {op op' : CmpOp} {f g : F2} {r r' : R2} (ho : OpR X (PySem.compareOp op) r) (ho' : OpR X (PySem.compareOp op') r') (hf : F2Ok X.K X.mg f r) (hg : F2Ok X.K X.mg g r') (ha : PEs X W a fa) (hb : PEs X W b fb) (hc : PEs X W c fc)
    (hm : PySem.lastMarks [op, op'] [b, c] = false := by with_unfolding_all rfl) : PTs' X W (.Compare a [op, op'] [b, c] pos) (tB (eChain f g fa fb fc)) := PT.weak (pt_chain ho ho' ha hb hc hm) fun σ H Q k => chain_cut hf hg σ H _ (tB_cut σ H Q k)
theorem f_lt {K : Frag} {mg : Mg} : F2Ok K mg fLt (rI0 fun i j => .bl (decide (i < j))) := fI0_ok fun _ _ _ => rfl
theorem f_le {K : Frag} {mg : Mg} : F2Ok K mg fLe (rI0 fun i j => .bl (decide (i ≤ j))) := fI0_ok fun _ _ _ => rfl
theorem f_gt {K : Frag} {mg : Mg} : F2Ok K mg fGt (rI0 fun i j => .bl (decide (j < i))) := fI0_ok fun _ _ _ => rfl
theorem f_ge {K : Frag} {mg : Mg} : F2Ok K mg fGe (rI0 fun i j => .bl (decide (j ≤ i))) := fI0_ok fun _ _ _ => rfl

/-! ### a module's constant that is data; a def's call -/
theorem s_glob {x : Str} {y : Val} {v : V} {u : PySem.Value} (hg : Gl X x) (hm : X.mg x = some u) (rv : RelV v u) (ry : ∀ w, RVal X.K w y v) (hd : (x == ("__debug__" : Str)) = false := by decide) : PEs X W (.Name x pos) (eC y) :=
  PE.weak (pe_glob hg hm rv hd) fun σ H Q ⟨w, r, h, e, R, k⟩ => by
    subst e
    exact k w _ (Le.refl w) R.hp (ry w)
/-- a def's promise: it gives what ours gives -/
def FK (K : Frag) (mg : Mg) (w : Rw) (Q : VK) (Ex : XK) : EO RV → Prop
  | .ok x h => ∀ w' v, Le w w' → RHp K mg w' h → RRes K w w' x v → Q v w'.H
  | .ex e h => ∀ w' cls d, Le w w' → RHp K mg w' h → RExn K mg w' e cls d → Ex cls d w'.H
  | .no => False
def spF (K : Frag) (mg : Mg) (n : Nat) (f : Fn) : Sp := fun vs H Q Ex => ∃ w h rs, w.H = H ∧ RHp K mg w h ∧ RArgs K w rs vs ∧ vs.length = n ∧ FK K mg w Q Ex (f rs h)
theorem call_cut {K : Frag} {mg : Mg} {n : Nat} {f : Fn} (hn : ∀ r h xs h1, fs r h = .ok xs h1 → xs.length = n) : ∀ σ H Q, tE K mg W (eCall f fs) σ H Q → tCallSD (spF K mg n f) [] (WE W) (tA K mg W fs) σ H Q := fun σ H Q ⟨w, r, h, e, R, k⟩ => by
  subst e
  refine ⟨w, r, h, rfl, R, ?_⟩
  have k : EK K mg W w σ Q ((fs r h).bind f) := k
  cases he : fs r h with
  | no =>
    rw [he] at k
    exact k.elim
  | ex e h1 =>
    rw [he] at k
    exact k
  | ok xs h1 =>
    rw [he] at k
    intro w' vs l R1 q1
    have hl : xs.length = vs.length := by
      have : ∀ {xs : List RV} {vs : List V}, RArgs K w' xs vs → xs.length = vs.length := by
        intro xs
        induction xs with
        | nil => intro vs q; have e : vs = [] := q; subst e; rfl
        | cons x xs ih => intro vs ⟨v, r, e, _, q⟩; subst e; rw [List.length_cons, List.length_cons, ih q]
      exact this q1
    refine ⟨w', h1, xs, rfl, R1, by rw [List.append_nil]; exact q1, by rw [List.append_nil, ← hl]; exact hn r h xs h1 he, ?_⟩
    have k2 : EK K mg W w σ Q (f xs h1) := k
    have k3 := EK.le l k2
    cases hf : f xs h1 with
    | no =>
      rw [hf] at k3
      exact k3.elim
    | ok x h2 =>
      rw [hf] at k3
      exact k3
    | ex e h2 =>
      rw [hf] at k3
      exact fun w'' cls d l2 R2 q2 => k3 w'' cls d l2 R2 q2
theorem aNil_len {r : Env} {h h1 : Heap} {xs : List RV} (e : aNil r h = .ok xs h1) : xs.length = 0 := by
  cases e
  rfl
theorem aCons_len {n : Nat} (hn : ∀ r h xs h1, fs r h = .ok xs h1 → xs.length = n) : ∀ r h xs h1, aCons fa fs r h = .ok xs h1 → xs.length = n + 1 := fun r h xs h1 e => by
  unfold aCons at e
  cases ha : fa r h with
  | no => rw [ha] at e; cases e
  | ex _ _ => rw [ha] at e; cases e
  | ok x h2 =>
    rw [ha] at e
    have e : (fs r h2).bind (fun xs h2 => .ok (x.arg :: xs) h2) = .ok xs h1 := e
    cases hb : fs r h2 with
    | no => rw [hb] at e; cases e
    | ex _ _ => rw [hb] at e; cases e
    | ok ys h3 =>
      rw [hb] at e
      cases e
      rw [List.length_cons, hn r h2 ys _ hb]
end
end SM

/-! SMStm: statements. -/
namespace SM
open PySem (Str Expr Stmt Pos Operator CmpOp)
open L2 hiding St tB tAnd tOr tNot
/-- from one world to a later one, our objects and the lists at M may have changed -/
structure LeS (M : Addr → Prop) (w w' : Rw) : Prop where
  n : w.n ≤ w'.n
  io : ∀ k, k < w.n → w'.io k = w.io k
  keep : ∀ b o, w.H b = some o → w.out b → ¬ M b → w'.H b = some o
  there : ∀ b o, w.H b = some o → ∃ o', w'.H b = some o'
  P : ∀ b o, w.H b = some o → w'.P b → w.P b
  P2 : ∀ b o, w.H b = some o → ¬ M b → w.P b → w'.P b
  new : ∀ k, w.n ≤ k → k < w'.n → w.H (w'.io k) = none
section
variable {K : Frag} {mg : Mg} {w w0 w1 w2 : Rw} {h h' : Heap} {a : Addr} {M M0 M1 : Addr → Prop} {r : Env} {σ : L2.St}
theorem Le.s (l : Le w w1) : LeS M w w1 := ⟨l.n, l.io, fun b o e u _ => l.keep b o e u, l.there, fun b o e => (l.P b o e).mp, fun b o e _ => (l.P b o e).mpr, l.new⟩
theorem LeS.refl : LeS M w w := (Le.refl w).s
theorem LeS.fresh (l : LeS M w w1) {b : Addr} (e : w1.H b = none) : w.H b = none := by
  cases q : w.H b with
  | none => rfl
  | some o =>
    obtain ⟨o', q'⟩ := l.there b o q
    rw [e] at q'
    cases q'
theorem LeS.out (l : LeS M w w1) {b : Addr} {o : HO} (e : w.H b = some o) (u : w.out b) : w1.out b := fun k hk z => by
  by_cases h1 : k < w.n
  · rw [l.io k h1] at z
    exact u k h1 z
  · have := l.new k (Nat.not_lt.mp h1) hk
    rw [z, e] at this
    cases this
theorem LeS.trans (l : LeS M0 w w1) (m : LeS M1 w1 w2) (hM : ∀ b, M1 b → M0 b ∨ w.H b = none) : LeS M0 w w2 where
  n := Nat.le_trans l.n m.n
  io := fun k hk => (m.io k (Nat.lt_of_lt_of_le hk l.n)).trans (l.io k hk)
  keep := fun b o e u z => m.keep b o (l.keep b o e u z) (l.out e u) fun q => (hM b q).elim z fun q => by rw [e] at q; cases q
  there := fun b o e => by
    obtain ⟨o1, e1⟩ := l.there b o e
    exact m.there b o1 e1
  P := fun b o e z => by
    obtain ⟨o1, e1⟩ := l.there b o e
    exact l.P b o e (m.P b o1 e1 z)
  P2 := fun b o e z p => by
    obtain ⟨o1, e1⟩ := l.there b o e
    exact m.P2 b o1 e1 (fun q => (hM b q).elim z fun q => by rw [e] at q; cases q) (l.P2 b o e z p)
  new := fun k h1 h2 => by
    by_cases h3 : k < w1.n
    · rw [m.io k h3]
      exact l.new k h1 h3
    · exact l.fresh (m.new k (Nat.not_lt.mp h3) h2)
theorem LeS.le (l : LeS M0 w w1) (m : Le w1 w2) : LeS M0 w w2 := l.trans (M1 := fun _ => False) m.s fun _ z => z.elim
theorem rd_keepS (l : LeS M w w1) {u : HO} (q : Rd w.H a u) (ho : w.out a) (hm : ¬ M a) : Rd w1.H a u := by
  rcases q with q | ⟨o, q⟩
  · exact .inl (l.keep _ _ q ho hm)
  · exact .inr ⟨o, l.keep _ _ q ho hm⟩
theorem STup.leS (R : RHp K mg w h) (hM : ∀ b, M b → w.P b) (l : LeS M w w1) {xs : List V} (q : STup K w a xs) : STup K w1 a xs := by
  rcases q with ⟨q, p⟩ | q
  · refine .inl ⟨rd_keepS l q (R.outP p) fun z => p (hM a z), fun z => p ?_⟩
    obtain ⟨o, e⟩ := rd_some q
    exact l.P a o e z
  · exact .inr q
theorem SLst.leS (R : RHp K mg w h) (hM : ∀ b, M b → w.P b) (l : LeS M w w1) {xs : List V} (q : SLst K w a xs) : SLst K w1 a xs := by
  rcases q with ⟨q, p⟩ | q
  · refine .inl ⟨rd_keepS l q (R.outP p) fun z => p (hM a z), fun z => p ?_⟩
    obtain ⟨o, e⟩ := rd_some q
    exact l.P a o e z
  · exact .inr q
theorem SRo.leS (R : RHp K mg w h) (hM : ∀ b, M b → w.P b) (l : LeS M w w1) {xs : List V} (q : SRo w a xs) : SRo w1 a xs :=
  ⟨l.keep a _ q.1 (R.outP q.2) fun z => q.2 (hM a z), fun z => q.2 (l.P a _ q.1 z)⟩
mutual
theorem RVal.leS (R : RHp K mg w h) (hM : ∀ b, M b → w.P b) (l : LeS M w w1) : ∀ {x : Val} {v : V}, RVal K w x v → RVal K w1 x v
  | .none, _, q => q
  | .bool _, _, q => q
  | .int _, _, q => q
  | .str _, _, q => q
  | .tup _, _, ⟨a, xs, e, s, q⟩ => ⟨a, xs, e, s.leS R hM l, RVals.leS R hM l q⟩
  | .ro _, _, ⟨a, xs, e, s, q⟩ => ⟨a, xs, e, s.leS R hM l, RVals.leS R hM l q⟩
  | .scr _, _, ⟨a, xs, e, s, q⟩ => ⟨a, xs, e, s.leS R hM l, RVals.leS R hM l q⟩
  | .obj k, _, ⟨hk, e⟩ => ⟨Nat.lt_of_lt_of_le hk l.n, by rw [l.io k hk]; exact e⟩
theorem RVals.leS (R : RHp K mg w h) (hM : ∀ b, M b → w.P b) (l : LeS M w w1) : ∀ {xs : List Val} {vs : List V}, RVals K w xs vs → RVals K w1 xs vs
  | [], _, q => q
  | _ :: _, _, ⟨y, ys, e, q1, q2⟩ => ⟨y, ys, e, RVal.leS R hM l q1, RVals.leS R hM l q2⟩
end

/-- a state behind a statement; w0, M0: an earlier world, and the lists that were one's own there -/
structure RelS (K : Frag) (mg : Mg) (w0 : Rw) (M0 : Addr → Prop) (w : Rw) (r : Env) (h : Heap) (σ : L2.St) : Prop where
  rel : Rel K mg w r h σ
  le : LeS M0 w0 w
  fr : ∀ a, owns r σ a → M0 a ∨ w0.H a = none
def SK (K : Frag) (mg : Mg) (W : WX) (w0 : Rw) (M0 : Addr → Prop) (D : Ends) : SO → Prop
  | .nx r h => ∀ w σ, RelS K mg w0 M0 w r h σ → D.nx σ w.H
  | .rt x h => ∀ w v, LeS M0 w0 w → RHp K mg w h → RRes K w0 w x v → D.rt v w.H
  | .bk r h => ∀ w σ, RelS K mg w0 M0 w r h σ → D.bk σ w.H
  | .ct r h => ∀ w σ, RelS K mg w0 M0 w r h σ → D.ct σ w.H
  | .ex e r h => ∀ w σ cls d, RelS K mg w0 M0 w r h σ → RExn K mg w e cls d → W cls d σ w.H
  | .no => False
def tS (K : Frag) (mg : Mg) (W : WX) (w0 : Rw) (M0 : Addr → Prop) (f : S) : TS := fun D σ H => ∃ w r h, w.H = H ∧ RelS K mg w0 M0 w r h σ ∧ SK K mg W w0 M0 D (f r h)
theorem RelS.le' (R : RelS K mg w0 M0 w r h σ) (l : Le w w1) (q : RHp K mg w1 h') : RelS K mg w0 M0 w1 r h' σ := ⟨R.rel.le l q, R.le.le l, R.fr⟩
theorem RRes.backS {x : RV} {v : V} (l : LeS M w0 w) (q : RRes K w w1 x v) : RRes K w0 w1 x v := by
  cases x with
  | v x => exact q
  | own xs =>
    obtain ⟨a, ys, e, e0, e1, q, p, u⟩ := q
    exact ⟨a, ys, e, l.fresh e0, e1, q, p, u⟩
  | view xs => exact q
theorem SK.cut {W : WX} {D : Ends} {Q' : VK} {f : RV → Heap → SO} (R : RelS K mg w0 M0 w r h σ) (c : ∀ x h1 w1 v1, Le w w1 → RHp K mg w1 h1 → RRes K w w1 x v1 → SK K mg W w0 M0 D (f x h1) → Q' v1 w1.H) :
    ∀ {o : EO RV}, SK K mg W w0 M0 D (o.then r f) → EK K mg W w σ Q' o
  | .ok x h, k => fun w' v l hp q => c x h w' v l hp q k
  | .ex e h, k => fun w' cls d l hp q => k w' σ cls d (R.le' l hp) q
  | .no, k => k
theorem SK.cutT {W : WX} {D : Ends} {Q' : Bool → Hp → Prop} {f : Bool → Heap → SO} (R : RelS K mg w0 M0 w r h σ) (c : ∀ x h1 w1, Le w w1 → RHp K mg w1 h1 → SK K mg W w0 M0 D (f x h1) → Q' x w1.H) :
    ∀ {o : EO Bool}, SK K mg W w0 M0 D (o.then r f) → TK K mg W w σ Q' o
  | .ok x h, k => fun w' l hp => c x h w' l hp k
  | .ex e h, k => fun w' cls d l hp q => k w' σ cls d (R.le' l hp) q
  | .no, k => k
/-- the result is kept: it stands for good from now on -/
theorem RRes.keep {s : Rw} {x : RV} {v : V} {y : Val} (R : RHp K mg w h) (l : Le s w) (q : RRes K s w x v) (e : x.keep = some y) : ∃ w', w'.H = w.H ∧ Le s w' ∧ RHp K mg w' h ∧ RVal K w' y v := by
  obtain ⟨w', eH, l', R', q', _⟩ := q.arg R l
  refine ⟨w', eH, l', R', ?_⟩
  cases x with
  | v x =>
    have e : some x = some y := e
    cases e
    exact q'
  | own xs =>
    have e : some (Val.ro xs) = some y := e
    cases e
    exact q'
  | view xs => cases e

/-! ### a slot is set -/
theorem owns_set {i : Nat} {x : Val} {v : V} {b : Addr} (o : owns (r.set i (some (.v x))) (σ.set i (some v)) b) : owns r σ b := by
  obtain ⟨j, xs, e1, e2⟩ := o
  by_cases hj : i = j
  · subst hj
    rw [List.getElem?_set] at e1
    split at e1
    · split at e1
      · have e3 : RV.v x = RV.own xs := Option.some.inj (Option.some.inj e1)
        cases e3
      · cases e1
    · rename_i hn
      exact absurd rfl hn
  · rw [List.getElem?_set_ne hj] at e1 e2
    exact ⟨j, xs, e1, e2⟩
theorem RelS.set_v (R : RelS K mg w0 M0 w r h σ) {i : Nat} {x : Val} {v : V} (q : RVal K w x v) : RelS K mg w0 M0 w (r.set i (some (.v x))) h (σ.set i (some v)) := by
  refine ⟨⟨R.rel.hp, by rw [List.length_set, List.length_set]; exact R.rel.len, fun j y e => ?_, fun j k xs ys a e1 e2 e3 e4 => ?_⟩, R.le, fun a o => R.fr a (owns_set o)⟩
  · by_cases hj : i = j
    · subst hj
      have hlt : i < r.length := by
        have := (List.getElem?_eq_some_iff.mp e).1
        rw [List.length_set] at this
        exact this
      rw [List.getElem?_set_self hlt] at e
      have e : RV.v x = y := Option.some.inj (Option.some.inj e)
      subst e
      exact ⟨v, List.getElem?_set_self (by rw [R.rel.len]; exact hlt), q⟩
    · rw [List.getElem?_set_ne hj] at e
      obtain ⟨u, e1, s⟩ := R.rel.sl j y e
      refine ⟨u, by rw [List.getElem?_set_ne hj]; exact e1, ?_⟩
      cases y with
      | v y => exact s
      | own ys => exact s
      | view ys =>
        obtain ⟨a, zs, e2, ⟨s1, s2⟩, q2⟩ := s
        exact ⟨a, zs, e2, ⟨s1, fun o => s2 (owns_set o)⟩, q2⟩
  · have back : ∀ {j : Nat} {zs : List Val} {a : Addr}, (r.set i (some (.v x)))[j]? = some (some (.own zs)) → (σ.set i (some v))[j]? = some (some (.ref a)) → r[j]? = some (some (.own zs)) ∧ σ[j]? = some (some (.ref a)) := by
      intro j zs a e1 e3
      by_cases hj : i = j
      · subst hj
        rw [List.getElem?_set] at e1
        split at e1
        · split at e1
          · have e5 : RV.v x = RV.own zs := Option.some.inj (Option.some.inj e1)
            cases e5
          · cases e1
        · rename_i hn
          exact absurd rfl hn
      · rw [List.getElem?_set_ne hj] at e1 e3
        exact ⟨e1, e3⟩
    obtain ⟨f1, f3⟩ := back e1 e3
    obtain ⟨f2, f4⟩ := back e2 e4
    exact R.rel.own1 j k xs ys a f1 f2 f3 f4
theorem RelS.tracked (R : RelS K mg w0 M0 w r h σ) {i : Nat} {a : Addr} {x : RV} (e1 : r[i]? = some (some x)) (e2 : σ[i]? = some (some (.ref a))) (hx : ∀ y, x ≠ .v y) : ∃ o, w.H a = some o := by
  obtain ⟨v, e3, s⟩ := R.rel.sl i x e1
  rw [e2] at e3
  cases e3
  cases x with
  | v y => exact absurd rfl (hx y)
  | own ys =>
    obtain ⟨b, zs, e, e1, _⟩ := s
    cases e
    exact ⟨_, e1⟩
  | view ys =>
    obtain ⟨b, zs, e, s, _⟩ := s
    cases e
    exact ⟨_, s.1.1⟩
theorem RelS.set_own (R : RelS K mg w0 M0 w r h σ) (l : Le w w1) (R1 : RHp K mg w1 h') {i : Nat} {xs : List Val} {v : V} (q : RRes K w w1 (.own xs) v) : RelS K mg w0 M0 w1 (r.set i (some (.own xs))) h' (σ.set i (some v)) := by
  have R2 := R.le' l R1
  obtain ⟨a, ys, e, e0, e1, q1, p, u⟩ := q
  subst e
  have ow : ∀ b, owns (r.set i (some (.own xs))) (σ.set i (some (.ref a))) b → owns r σ b ∨ b = a := by
    rintro b ⟨j, zs, f1, f2⟩
    by_cases hj : i = j
    · subst hj
      have hlt : i < σ.length := by
        have := (List.getElem?_eq_some_iff.mp f2).1
        rw [List.length_set] at this
        exact this
      rw [List.getElem?_set_self hlt] at f2
      have : V.ref a = V.ref b := Option.some.inj (Option.some.inj f2)
      cases this
      exact .inr rfl
    · rw [List.getElem?_set_ne hj] at f1 f2
      exact .inl ⟨j, zs, f1, f2⟩
  have ne : ∀ {j : Nat} {x : RV} {b : Addr}, r[j]? = some (some x) → σ[j]? = some (some (.ref b)) → (∀ y, x ≠ .v y) → b ≠ a := by
    intro j x b f1 f2 f3 z
    obtain ⟨o, eo⟩ := R.tracked f1 f2 f3
    rw [z, e0] at eo
    cases eo
  refine ⟨⟨R1, by rw [List.length_set, List.length_set]; exact R.rel.len, fun j y f => ?_, fun j k zs us b f1 f2 f3 f4 => ?_⟩, R2.le, fun b o => ?_⟩
  · by_cases hj : i = j
    · subst hj
      have hlt : i < r.length := by
        have := (List.getElem?_eq_some_iff.mp f).1
        rw [List.length_set] at this
        exact this
      rw [List.getElem?_set_self hlt] at f
      have f : RV.own xs = y := Option.some.inj (Option.some.inj f)
      subst f
      exact ⟨.ref a, List.getElem?_set_self (by rw [R.rel.len]; exact hlt), a, ys, rfl, e1, q1, p, u⟩
    · rw [List.getElem?_set_ne hj] at f
      obtain ⟨v, f1, s⟩ := R2.rel.sl j y f
      refine ⟨v, by rw [List.getElem?_set_ne hj]; exact f1, ?_⟩
      cases y with
      | v y => exact s
      | own ys => exact s
      | view vs =>
        obtain ⟨b, zs, e2, ⟨s1, s2⟩, q2⟩ := s
        subst e2
        refine ⟨b, zs, rfl, ⟨s1, fun o => ?_⟩, q2⟩
        rcases ow b o with o | o
        · exact s2 o
        · exact ne f f1 (fun y z => by cases z) o
  · by_cases hj : i = j
    · by_cases hk : i = k
      · exact hj.symm.trans hk
      · subst hj
        rw [List.getElem?_set_ne hk] at f2 f4
        have hlt : i < σ.length := by
          have := (List.getElem?_eq_some_iff.mp f3).1
          rw [List.length_set] at this
          exact this
        rw [List.getElem?_set_self hlt] at f3
        have e5 : V.ref a = V.ref b := Option.some.inj (Option.some.inj f3)
        cases e5
        exact absurd rfl (ne f2 f4 fun y z => by cases z)
    · rw [List.getElem?_set_ne hj] at f1 f3
      by_cases hk : i = k
      · subst hk
        have hlt : i < σ.length := by
          have := (List.getElem?_eq_some_iff.mp f4).1
          rw [List.length_set] at this
          exact this
        rw [List.getElem?_set_self hlt] at f4
        have e5 : V.ref a = V.ref b := Option.some.inj (Option.some.inj f4)
        cases e5
        exact absurd rfl (ne f1 f3 fun y z => by cases z)
      · rw [List.getElem?_set_ne hk] at f2 f4
        exact R.rel.own1 j k zs us b f1 f2 f3 f4
  · rcases ow b o with o | o
    · exact R.fr b o
    · subst o
      exact .inr (R.le.fresh e0)

/-! ### a list of one's own changes -/
def Rw.updO (w : Rw) (l : Addr) (ys : List V) : Rw := { w with H := upd w.H l (.lst ys) }
section
variable {l : Addr} {ys : List V}
theorem STup.updO (hl : w.P l) {b : Addr} {xs : List V} (q : STup K w b xs) : STup K (w.updO l ys) b xs := by
  rcases q with ⟨q, p⟩ | q
  · have ne : b ≠ l := fun z => p (z ▸ hl)
    refine .inl ⟨?_, p⟩
    rcases q with q | ⟨o, q⟩
    · exact .inl ((upd_ne ne).trans q)
    · exact .inr ⟨o, (upd_ne ne).trans q⟩
  · exact .inr q
theorem SLst.updO (hl : w.P l) {b : Addr} {xs : List V} (q : SLst K w b xs) : SLst K (w.updO l ys) b xs := by
  rcases q with ⟨q, p⟩ | q
  · have ne : b ≠ l := fun z => p (z ▸ hl)
    refine .inl ⟨?_, p⟩
    rcases q with q | ⟨o, q⟩
    · exact .inl ((upd_ne ne).trans q)
    · exact .inr ⟨o, (upd_ne ne).trans q⟩
  · exact .inr q
theorem SRo.updO (hl : w.P l) {b : Addr} {xs : List V} (q : SRo w b xs) : SRo (w.updO l ys) b xs := ⟨(upd_ne (show b ≠ l from fun z => q.2 (z ▸ hl))).trans q.1, q.2⟩
mutual
theorem RVal.updO (hl : w.P l) : ∀ {x : Val} {v : V}, RVal K w x v → RVal K (w.updO l ys) x v
  | .none, _, q => q
  | .bool _, _, q => q
  | .int _, _, q => q
  | .str _, _, q => q
  | .tup _, _, ⟨a, xs, e, s, q⟩ => ⟨a, xs, e, s.updO hl, RVals.updO hl q⟩
  | .ro _, _, ⟨a, xs, e, s, q⟩ => ⟨a, xs, e, s.updO hl, RVals.updO hl q⟩
  | .scr _, _, ⟨a, xs, e, s, q⟩ => ⟨a, xs, e, s.updO hl, RVals.updO hl q⟩
  | .obj k, _, q => q
theorem RVals.updO (hl : w.P l) : ∀ {xs : List Val} {vs : List V}, RVals K w xs vs → RVals K (w.updO l ys) xs vs
  | [], _, q => q
  | _ :: _, _, ⟨y, ys, e, q1, q2⟩ => ⟨y, ys, e, RVal.updO hl q1, RVals.updO hl q2⟩
end
theorem RFs.updO (hl : w.P l) : ∀ {fs : List (Str × Val)} {gs : List (Str × V)}, RFs K w fs gs → RFs K (w.updO l ys) fs gs
  | [], _, q => q
  | (_, _) :: _, _, ⟨y, g, e, q1, q2⟩ => ⟨y, g, e, q1.updO hl, RFs.updO hl q2⟩
theorem RKs.updO (hl : w.P l) : ∀ {fs : List (L2.Key × Val)} {gs : List (L2.Key × V)}, RKs K w fs gs → RKs K (w.updO l ys) fs gs
  | [], _, q => q
  | (_, _) :: _, _, ⟨y, g, e, q1, q2⟩ => ⟨y, g, e, q1.updO hl, RKs.updO hl q2⟩
theorem RObj.updO (hl : w.P l) {o : HObj} (ha : a ≠ l) (q : RObj K mg w a o) : RObj K mg (w.updO l ys) a o := by
  cases o with
  | lst vs =>
    obtain ⟨xs, e, q⟩ := q
    exact ⟨xs, (upd_ne ha).trans e, q.updO hl⟩
  | ins c fs =>
    obtain ⟨C, dx, gs, e, c, q⟩ := q
    exact ⟨C, dx, gs, (upd_ne ha).trans e, c, q.updO hl⟩
  | dct kvs =>
    obtain ⟨gs, e, q⟩ := q
    exact ⟨gs, (upd_ne ha).trans e, q.updO hl⟩
theorem RHp.updO (R : RHp K mg w h) (hl : w.P l) (u : w.out l) : RHp K mg (w.updO l ys) h :=
  ⟨R.len, fun k o e => (R.obj k o e).updO hl (u k (by rw [← R.len]; exact (List.getElem?_eq_some_iff.mp e).1)), R.inj, R.inP, fun b hb => by
    by_cases z : b = l
    · exact ⟨.lst ys, by rw [z]; exact upd_same⟩
    · obtain ⟨o, e⟩ := R.ph b hb
      exact ⟨o, (upd_ne z).trans e⟩⟩
end
theorem RelS.upd_own {i : Nat} {l : Addr} {xs xs' : List Val} {ys' : List V} (R : RelS K mg w0 M0 w r h σ) (e1 : r[i]? = some (some (.own xs))) (e2 : σ[i]? = some (some (.ref l))) (q : RVals K w xs' ys') :
    RelS K mg w0 M0 (w.updO l ys') (r.set i (some (.own xs'))) h σ := by
  obtain ⟨v, e3, s⟩ := R.rel.sl i _ e1
  rw [e2] at e3
  cases e3
  obtain ⟨l', zs, el, eH, q0, hl, u⟩ := s
  cases el
  have hir : i < r.length := (List.getElem?_eq_some_iff.mp e1).1
  have ow : ∀ b, owns (r.set i (some (.own xs'))) σ b → owns r σ b := by
    rintro b ⟨j, us, f1, f2⟩
    by_cases hj : i = j
    · subst hj
      exact ⟨i, xs, e1, f2⟩
    · rw [List.getElem?_set_ne hj] at f1
      exact ⟨j, us, f1, f2⟩
  have hown : owns r σ l := ⟨i, xs, e1, e2⟩
  refine ⟨⟨R.rel.hp.updO hl u, by rw [List.length_set]; exact R.rel.len, fun j y f => ?_, fun j k us vs b f1 f2 f3 f4 => ?_⟩, ?_, fun b o => R.fr b (ow b o)⟩
  · by_cases hj : i = j
    · subst hj
      rw [List.getElem?_set_self hir] at f
      have f : RV.own xs' = y := Option.some.inj (Option.some.inj f)
      subst f
      exact ⟨.ref l, e2, l, ys', rfl, upd_same, q.updO hl, hl, u⟩
    · rw [List.getElem?_set_ne hj] at f
      obtain ⟨v, f1, s⟩ := R.rel.sl j y f
      refine ⟨v, f1, ?_⟩
      cases y with
      | v y => exact RVal.updO hl s
      | own us =>
        obtain ⟨b, zs, eb, s1, s2, s3, s4⟩ := s
        subst eb
        have ne : b ≠ l := fun z => by
          subst z
          exact hj (R.rel.own1 i j xs us b e1 f e2 f1)
        exact ⟨b, zs, rfl, (upd_ne ne).trans s1, s2.updO hl, s3, s4⟩
      | view us =>
        obtain ⟨b, zs, eb, ⟨s1, s2⟩, s3⟩ := s
        subst eb
        have ne : b ≠ l := fun z => by
          subst z
          exact s2 hown
        exact ⟨b, zs, rfl, ⟨⟨(upd_ne ne).trans s1.1, s1.2⟩, fun o => s2 (ow b o)⟩, s3.updO hl⟩
  · have back : ∀ {j : Nat} {us : List Val}, (r.set i (some (.own xs')))[j]? = some (some (.own us)) → ∃ us', r[j]? = some (some (.own us')) := by
      intro j us f
      by_cases hj : i = j
      · subst hj
        exact ⟨xs, e1⟩
      · rw [List.getElem?_set_ne hj] at f
        exact ⟨us, f⟩
    obtain ⟨us', g1⟩ := back f1
    obtain ⟨vs', g2⟩ := back f2
    exact R.rel.own1 j k us' vs' b g1 g2 f3 f4
  · have nl : ∀ b o, w0.H b = some o → ¬ M0 b → b ≠ l := fun b o e hm z => by
      subst z
      rcases R.fr b hown with z | z
      · exact hm z
      · rw [e] at z
        cases z
    refine ⟨R.le.n, R.le.io, fun b o e u hm => (upd_ne (nl b o e hm)).trans (R.le.keep b o e u hm), fun b o e => ?_, R.le.P, R.le.P2, R.le.new⟩
    obtain ⟨o', e'⟩ := R.le.there b o e
    by_cases z : b = l
    · exact ⟨.lst ys', by rw [z]; exact upd_same⟩
    · exact ⟨o', (upd_ne z).trans e'⟩
end

/-- a list of one's own stands for good from here on -/
theorem RelS.freeze {i : Nat} {xs : List Val} (R : RelS K mg w0 M0 w r h σ) (e1 : r[i]? = some (some (.own xs))) : ∃ w', w'.H = w.H ∧ RelS K mg w0 M0 w' (r.set i (some (.v (.ro xs)))) h σ := by
  obtain ⟨v, e2, l, ys, e3, s1, s2, s3, s4⟩ := R.rel.sl i _ e1
  subst e3
  have hir : i < r.length := (List.getElem?_eq_some_iff.mp e1).1
  have ow : ∀ b, owns (r.set i (some (.v (.ro xs)))) σ b → owns r σ b ∧ b ≠ l := by
    rintro b ⟨j, us, f1, f2⟩
    by_cases hj : i = j
    · subst hj
      rw [List.getElem?_set_self hir] at f1
      have f1 : RV.v (.ro xs) = RV.own us := Option.some.inj (Option.some.inj f1)
      cases f1
    · rw [List.getElem?_set_ne hj] at f1
      refine ⟨⟨j, us, f1, f2⟩, fun z => ?_⟩
      subst z
      exact hj (R.rel.own1 i j xs us b e1 f1 e2 f2)
  have anti : ∀ b, w.P b ∧ b ≠ l → w.P b := fun b z => z.1
  refine ⟨w.drop l, rfl, ⟨R.rel.hp.drop s4, by rw [List.length_set]; exact R.rel.len, fun j y f => ?_, fun j k us vs b f1 f2 f3 f4 => ?_⟩, ⟨R.le.n, R.le.io, R.le.keep, R.le.there, fun b o e z => R.le.P b o e z.1, fun b o e z p => ⟨R.le.P2 b o e z p, fun q => ?_⟩, R.le.new⟩, fun b o => R.fr b (ow b o).1⟩
  · by_cases hj : i = j
    · subst hj
      rw [List.getElem?_set_self hir] at f
      have f : RV.v (.ro xs) = y := Option.some.inj (Option.some.inj f)
      subst f
      exact ⟨.ref l, e2, l, ys, rfl, ⟨s1, fun z => z.2 rfl⟩, s2.antiP anti⟩
    · rw [List.getElem?_set_ne hj] at f
      obtain ⟨u, f1, s⟩ := R.rel.sl j y f
      refine ⟨u, f1, ?_⟩
      cases y with
      | v y => exact RVal.antiP anti s
      | own us =>
        obtain ⟨b, zs, eb, q1, q2, q3, q4⟩ := s
        subst eb
        exact ⟨b, zs, rfl, q1, q2.antiP anti, ⟨q3, (ow b ⟨j, us, by rw [List.getElem?_set_ne hj]; exact f, f1⟩).2⟩, q4⟩
      | view us =>
        obtain ⟨b, zs, eb, ⟨q1, q2⟩, q3⟩ := s
        exact ⟨b, zs, eb, ⟨q1, fun o => q2 (ow b o).1⟩, q3.antiP anti⟩
  · have back : ∀ {j : Nat} {us : List Val}, (r.set i (some (.v (.ro xs))))[j]? = some (some (.own us)) → r[j]? = some (some (.own us)) := by
      intro j us f
      by_cases hj : i = j
      · subst hj
        rw [List.getElem?_set_self hir] at f
        have f : RV.v (.ro xs) = RV.own us := Option.some.inj (Option.some.inj f)
        cases f
      · rw [List.getElem?_set_ne hj] at f
        exact f
    exact R.rel.own1 j k us vs b (back f1) (back f2) f3 f4
  · subst q
    rcases R.fr b ⟨i, xs, e1, e2⟩ with q | q
    · exact z q
    · rw [e] at q
      cases q

/-! ### the rules -/
section
variable {X : Cx} {W : WX} {w0 : Rw} {M0 : Addr → Prop} {pos pos' : Pos} {a b c e : Expr} {fa fb fc : E} {ga gb : T} {es : List Expr} {fs : A} {st : Stmt} {sts : List Stmt} {f g : S}
abbrev PSs' (X : Cx) (W : WX) (w0 : Rw) (M0 : Addr → Prop) (st : Stmt) (f : S) : Prop := PS X st (tS X.K X.mg W w0 M0 f)
abbrev PBs (X : Cx) (W : WX) (w0 : Rw) (M0 : Addr → Prop) (st : List Stmt) (f : S) : Prop := PSs X st (tS X.K X.mg W w0 M0 f)
theorem PS.weak {t t' : TS} (p : PS X st t) (c : ∀ D σ H, t' D σ H → t D σ H) : PS X st t' := ⟨fun pins s σ H D I q => p.run pins s σ H D I (c D σ H q)⟩
theorem PSs.weak {t t' : TS} (p : PSs X sts t) (c : ∀ D σ H, t' D σ H → t D σ H) : PSs X sts t' := ⟨fun pins s σ H D I q => p.run pins s σ H D I (c D σ H q)⟩
theorem b_nil : PBs X W w0 M0 [] sNil := PSs.weak pss_nil fun D σ H ⟨w, r, h, e, R, k⟩ => by
  subst e
  exact k w σ R
theorem b_cons (h1 : PSs' X W w0 M0 st f) (h2 : PBs X W w0 M0 sts g) : PBs X W w0 M0 (st :: sts) (sCons f g) := PSs.weak (pss_cons h1 h2) fun D σ H ⟨w, r, h, e, R, k⟩ => by
  subst e
  refine ⟨w, r, h, rfl, R, ?_⟩
  have k : SK X.K X.mg W w0 M0 D ((f r h).seq g) := k
  cases hf : f r h with
  | nx r1 h1 =>
    rw [hf] at k
    exact fun w1 σ1 R1 => ⟨w1, r1, h1, rfl, R1, k⟩
  | rt x h1 =>
    rw [hf] at k
    exact k
  | bk r1 h1 =>
    rw [hf] at k
    exact k
  | ct r1 h1 =>
    rw [hf] at k
    exact k
  | ex e r1 h1 =>
    rw [hf] at k
    exact k
  | no =>
    rw [hf] at k
    exact k
/-- a slot's list of one's own stands for good from here on, ahead of a statement -/
theorem b_frz (i : Nat) (h1 : PSs' X W w0 M0 st f) : PSs' X W w0 M0 st (sCons (sFrz i) f) := PS.weak h1 fun D σ H ⟨w, r, h, e, R, k⟩ => by
  subst e
  have k : SK X.K X.mg W w0 M0 D ((sFrz i r h).seq f) := k
  unfold sFrz at k
  split at k
  · rename_i xs hx
    obtain ⟨w', eH, R'⟩ := R.freeze hx
    exact ⟨w', _, h, eH, R', k⟩
  · exact k.elim
theorem b_one (h1 : PSs' X W w0 M0 st f) : PBs X W w0 M0 [st] f := pss_one h1
theorem b_pass : PSs' X W w0 M0 (.Pass pos) sPass := PS.weak ps_pass fun D σ H ⟨w, r, h, e, R, k⟩ => by
  subst e
  exact k w σ R
theorem b_break : PSs' X W w0 M0 (.Break pos) sBreak := PS.weak ps_break fun D σ H ⟨w, r, h, e, R, k⟩ => by
  subst e
  exact k w σ R
theorem b_cont : PSs' X W w0 M0 (.Continue pos) sCont := PS.weak ps_continue fun D σ H ⟨w, r, h, e, R, k⟩ => by
  subst e
  exact k w σ R
theorem b_never : PSs' X W w0 M0 st sNever := PS.weak ps_never fun D σ H ⟨w, r, h, e, R, k⟩ => k.elim
theorem b_doc {x j p} : PSs' X W w0 M0 (.Expr (.Constant (.str x) j p) pos) sPass := PS.weak ps_doc fun D σ H ⟨w, r, h, e, R, k⟩ => by
  subst e
  exact k w σ R
theorem b_expr (ha : PEs X W a fa) (hs : PySem.swapsWith a none pos.line X.env = pure false := by rfl) : PSs' X W w0 M0 (.Expr a pos) (sExpr fa) := PS.weak (ps_expr ha hs) fun D σ H ⟨w, r, h, e, R, k⟩ => by
  subst e
  exact ⟨w, r, h, rfl, R.rel, SK.cut (f := fun _ h1 => .nx r h1) R (fun x h1 w1 v1 l1 R1 q1 k1 => k1 w1 σ (R.le' l1 R1)) k⟩
theorem b_ret (ha : PEs X W a fa) : PSs' X W w0 M0 (.Return (some a) pos) (sRet fa) := PS.weak (ps_ret ha) fun D σ H ⟨w, r, h, e, R, k⟩ => by
  subst e
  refine ⟨w, r, h, rfl, R.rel, SK.cut R (fun x h1 w1 v1 l1 R1 q1 k1 => ?_) k⟩
  cases x with
  | v x => exact k1 w1 v1 (R.le.le l1) R1 q1
  | own xs => exact k1 w1 v1 (R.le.le l1) R1 (RRes.backS (x := .own xs) R.le q1)
  | view xs => exact k1.elim
theorem b_retN : PSs' X W w0 M0 (.Return none pos) sRetN := PS.weak ps_retN fun D σ H ⟨w, r, h, e, R, k⟩ => by
  subst e
  exact k w _ R.le R.rel.hp rfl
theorem b_if (hc : PTs' X W c ga) (ha : PBs X W w0 M0 sts f) {sts2 : List Stmt} (hb : PBs X W w0 M0 sts2 g) : PSs' X W w0 M0 (.If c sts sts2 pos) (sIf ga f g) := PS.weak (ps_if hc ha hb) fun D σ H ⟨w, r, h, e, R, k⟩ => by
  subst e
  refine ⟨w, r, h, rfl, R.rel, SK.cutT R (fun c h1 w1 l1 R1 k1 => ?_) k⟩
  cases c with
  | true =>
    rw [if_pos rfl] at k1 ⊢
    exact ⟨w1, r, h1, rfl, R.le' l1 R1, k1⟩
  | false =>
    rw [if_neg Bool.false_ne_true] at k1 ⊢
    exact ⟨w1, r, h1, rfl, R.le' l1 R1, k1⟩
theorem b_set {i : Nat} {x : Str} (hN : X.N.Nodup) (hi : X.N[i]? = some x) (hx : Loc X.env.scope x) (ha : PEs X W a fa) (hs : PySem.swapsWith a (some (.Name x pos')) pos.line X.env = pure false := by rfl) (hf : X.fn x = true ∨ X.env.scope.names.lookup x = some .local := by first | exact .inl rfl | exact .inr rfl | assumption) :
    PSs' X W w0 M0 (.Assign [.Name x pos'] a pos) (sSet i fa) := PS.weak (ps_set hN hi hx ha hs hf) fun D σ H ⟨w, r, h, e, R, k⟩ => by
  subst e
  refine ⟨w, r, h, rfl, R.rel, SK.cut R (fun x h1 w1 v1 l1 R1 q1 k1 => ?_) k⟩
  split at k1
  · rename_i y hy
    obtain ⟨w2, eH, l2, R2, q2⟩ := q1.keep R1 l1 hy
    have := k1 w2 _ ((R.le' l2 R2).set_v (i := i) q2)
    rw [eH] at this
    exact this
  · exact k1.elim
theorem b_own {i : Nat} {x : Str} (hN : X.N.Nodup) (hi : X.N[i]? = some x) (hx : Loc X.env.scope x) (ha : PEs X W a fa) (hs : PySem.swapsWith a (some (.Name x pos')) pos.line X.env = pure false := by rfl) (hf : X.fn x = true ∨ X.env.scope.names.lookup x = some .local := by first | exact .inl rfl | exact .inr rfl | assumption) :
    PSs' X W w0 M0 (.Assign [.Name x pos'] a pos) (sOwn i fa) := PS.weak (ps_set hN hi hx ha hs hf) fun D σ H ⟨w, r, h, e, R, k⟩ => by
  subst e
  refine ⟨w, r, h, rfl, R.rel, SK.cut R (fun x h1 w1 v1 l1 R1 q1 k1 => ?_) k⟩
  split at k1
  · rename_i xs
    exact k1 w1 _ (R.set_own l1 R1 q1)
  · exact k1.elim
end
end SM

/-! SMStm2: further statements. -/
namespace SM
open PySem (Str Expr Stmt Pos Operator CmpOp)
open L2 hiding St tB tAnd tOr tNot
section
variable {K : Frag} {mg : Mg} {w w0 w1 w2 : Rw} {h h' : Heap} {a : Addr} {M M0 M1 : Addr → Prop} {r : Env} {σ : L2.St}
/-- a list of one's own becomes an object of the heap -/
def Rw.grow (w : Rw) (a : Addr) : Rw := ⟨fun k => if k = w.n then a else w.io k, w.P, w.n + 1, w.H⟩
theorem grow_io {k : Nat} (hk : k < w.n) : (w.grow a).io k = w.io k := if_neg (Nat.ne_of_lt hk)
theorem grow_at : (w.grow a).io w.n = a := if_pos rfl
mutual
theorem RVal.grow : ∀ {x : Val} {v : V}, RVal K w x v → RVal K (w.grow a) x v
  | .none, _, q => q
  | .bool _, _, q => q
  | .int _, _, q => q
  | .str _, _, q => q
  | .tup _, _, ⟨b, xs, e, s, q⟩ => ⟨b, xs, e, s, RVals.grow q⟩
  | .ro _, _, ⟨b, xs, e, s, q⟩ => ⟨b, xs, e, s, RVals.grow q⟩
  | .scr _, _, ⟨b, xs, e, s, q⟩ => ⟨b, xs, e, s, RVals.grow q⟩
  | .obj k, _, ⟨hk, e⟩ => ⟨Nat.lt_succ_of_lt hk, by rw [grow_io hk]; exact e⟩
theorem RVals.grow : ∀ {xs : List Val} {vs : List V}, RVals K w xs vs → RVals K (w.grow a) xs vs
  | [], _, q => q
  | _ :: _, _, ⟨y, ys, e, q1, q2⟩ => ⟨y, ys, e, RVal.grow q1, RVals.grow q2⟩
end
theorem RFs.grow : ∀ {fs : List (Str × Val)} {gs : List (Str × V)}, RFs K w fs gs → RFs K (w.grow a) fs gs
  | [], _, q => q
  | (_, _) :: _, _, ⟨y, g, e, q1, q2⟩ => ⟨y, g, e, q1.grow, RFs.grow q2⟩
theorem RKs.grow : ∀ {fs : List (L2.Key × Val)} {gs : List (L2.Key × V)}, RKs K w fs gs → RKs K (w.grow a) fs gs
  | [], _, q => q
  | (_, _) :: _, _, ⟨y, g, e, q1, q2⟩ => ⟨y, g, e, q1.grow, RKs.grow q2⟩
theorem RObj.grow {b : Addr} {o : HObj} (q : RObj K mg w b o) : RObj K mg (w.grow a) b o := by
  cases o with
  | lst vs =>
    obtain ⟨xs, e, q⟩ := q
    exact ⟨xs, e, q.grow⟩
  | ins c fs =>
    obtain ⟨C, dx, gs, e, c, q⟩ := q
    exact ⟨C, dx, gs, e, c, q.grow⟩
  | dct kvs =>
    obtain ⟨gs, e, q⟩ := q
    exact ⟨gs, e, q.grow⟩
theorem RHp.grow (R : RHp K mg w h) (hp : w.P a) (u : w.out a) {o : HObj} (q : RObj K mg w a o) : RHp K mg (w.grow a) (h ++ [o]) where
  len := by
    rw [List.length_append, List.length_singleton, R.len]
    rfl
  obj := fun k o' e => by
    by_cases hk : k < h.length
    · rw [List.getElem?_append_left hk] at e
      rw [grow_io (by rw [← R.len]; exact hk)]
      exact (R.obj k o' e).grow
    · have hk2 : k = h.length := by
        have := (List.getElem?_eq_some_iff.mp e).1
        rw [List.length_append, List.length_singleton] at this
        omega
      subst hk2
      rw [List.getElem?_append_right (Nat.le_refl _), Nat.sub_self] at e
      have e : some o = some o' := e
      cases e
      rw [R.len, grow_at]
      exact q.grow
  inj := fun j k hj hk e => by
    have hj : j < w.n + 1 := hj
    have hk : k < w.n + 1 := hk
    by_cases h1 : j < w.n
    · rw [grow_io h1] at e
      by_cases h2 : k < w.n
      · rw [grow_io h2] at e
        exact R.inj j k h1 h2 e
      · have : k = w.n := by omega
        subst this
        rw [grow_at] at e
        exact absurd e (u j h1)
    · have : j = w.n := by omega
      subst this
      rw [grow_at] at e
      by_cases h2 : k < w.n
      · rw [grow_io h2] at e
        exact absurd e.symm (u k h2)
      · omega
  inP := fun k hk => by
    have hk : k < w.n + 1 := hk
    by_cases h1 : k < w.n
    · rw [grow_io h1]
      exact R.inP k h1
    · have : k = w.n := by omega
      subst this
      rw [grow_at]
      exact hp
  ph := R.ph
theorem Le.grow {s : Rw} (l : Le s w) (ha : s.H a = none) : Le s (w.grow a) where
  n := Nat.le_succ_of_le l.n
  io := fun k hk => (grow_io (Nat.lt_of_lt_of_le hk l.n)).trans (l.io k hk)
  keep := l.keep
  there := l.there
  P := l.P
  new := fun k h1 h2 => by
    have h2 : k < w.n + 1 := h2
    by_cases h3 : k < w.n
    · rw [grow_io h3]
      exact l.new k h1 h3
    · have : k = w.n := by omega
      subst this
      rw [grow_at]
      exact ha
theorem out_grow {b : Addr} (u : w.out b) (ne : b ≠ a) : (w.grow a).out b := fun k hk z => by
  have hk : k < w.n + 1 := hk
  by_cases h1 : k < w.n
  · rw [grow_io h1] at z
    exact u k h1 z
  · have : k = w.n := by omega
    subst this
    rw [grow_at] at z
    exact ne z.symm
theorem RelS.grow (R : RelS K mg w0 M0 w r h σ) (l : Le w w1) (R1 : RHp K mg w1 h') {o : HObj} (e0 : w.H a = none) (p : w1.P a) (u : w1.out a) (q : RObj K mg w1 a o) : RelS K mg w0 M0 (w1.grow a) r (h' ++ [o]) σ := by
  have R2 := R.le' l R1
  refine ⟨⟨R1.grow p u q, R.rel.len, fun j y f => ?_, R.rel.own1⟩, R.le.le (l.grow e0), R.fr⟩
  obtain ⟨v, f1, s⟩ := R2.rel.sl j y f
  refine ⟨v, f1, ?_⟩
  cases y with
  | v y => exact RVal.grow s
  | own ys =>
    obtain ⟨b, zs, e, s1, s2, s3, s4⟩ := s
    subst e
    obtain ⟨o, eo⟩ := R.tracked f f1 fun y z => by cases z
    exact ⟨b, zs, rfl, s1, s2.grow, s3, out_grow s4 fun z => by rw [z, e0] at eo; cases eo⟩
  | view ys =>
    obtain ⟨b, zs, e, ⟨s1, s2⟩, s3⟩ := s
    subst e
    obtain ⟨o, eo⟩ := R.tracked f f1 fun y z => by cases z
    exact ⟨b, zs, rfl, ⟨⟨s1.1, out_grow s1.2 fun z => by rw [z, e0] at eo; cases eo⟩, s2⟩, s3.grow⟩
/-- an object of the heap is stored to -/
theorem RHp.upd_obj {m : Nat} {xs xs' : List Val} {ys' : List V} (R : RHp K mg w h) (e : h[m]? = some (.lst xs)) (q : RVals K w xs' ys') : RHp K mg (w.updO (w.io m) ys') (h.set m (.lst xs')) := by
  have hm : m < h.length := (List.getElem?_eq_some_iff.mp e).1
  have hm2 : m < w.n := by rw [← R.len]; exact hm
  have hl : w.P (w.io m) := R.inP m hm2
  refine ⟨by rw [List.length_set]; exact R.len, fun k o f => ?_, R.inj, R.inP, fun b hb => ?_⟩
  · by_cases hk : m = k
    · subst hk
      rw [List.getElem?_set_self hm] at f
      cases f
      exact ⟨ys', upd_same, q.updO hl⟩
    · rw [List.getElem?_set_ne hk] at f
      have hk2 : k < w.n := by rw [← R.len]; exact (List.getElem?_eq_some_iff.mp f).1
      exact (R.obj k o f).updO hl fun z => hk (R.inj m k hm2 hk2 z.symm)
  · by_cases z : b = w.io m
    · exact ⟨.lst ys', by rw [z]; exact upd_same⟩
    · obtain ⟨o, e⟩ := R.ph b hb
      exact ⟨o, (upd_ne z).trans e⟩
theorem Le.upd_obj {m : Nat} {ys' : List V} (hm : m < w.n) : Le w (w.updO (w.io m) ys') :=
  ⟨Nat.le_refl _, fun _ _ => rfl, fun b o e u => (upd_ne fun z => u m hm z.symm).trans e, fun b o e => by
    by_cases z : b = w.io m
    · exact ⟨.lst ys', by rw [z]; exact upd_same⟩
    · exact ⟨o, (upd_ne z).trans e⟩, fun _ _ _ => Iff.rfl, fun k h1 h2 => absurd h2 (Nat.not_lt.mpr h1)⟩
end
section
variable {X : Cx} {W : WX} {w0 : Rw} {M0 : Addr → Prop} {pos pos' : Pos} {a b c e : Expr} {fa fb fc : E} {ga gb : T} {es : List Expr} {fs : A} {st : Stmt} {sts : List Stmt} {f g : S}
/-- slot i = value -/
abbrev PAsg (X : Cx) (W : WX) (st : Stmt) (i : Nat) (fa : E) : Prop := PS X st (tAsg (tE X.K X.mg W fa) (gName i))
theorem g_set {i : Nat} {x : Str} (hN : X.N.Nodup) (ha : PEs X W a fa) (hi : X.N[i]? = some x := by rfl) (hx : Loc X.env.scope x := by first | exact Or.inl rfl | exact Or.inr rfl) (hs : PySem.swapsWith a (some (.Name x pos')) pos.line X.env = pure false := by rfl) (hf : X.fn x = true ∨ X.env.scope.names.lookup x = some .local := by first | exact .inl rfl | exact .inr rfl | assumption) :
    PAsg X W (.Assign [.Name x pos'] a pos) i fa := ps_set hN hi hx ha hs hf
theorem b_set' {i : Nat} (hp : PAsg X W st i fa) : PSs' X W w0 M0 st (sSet i fa) := PS.weak hp fun D σ H ⟨w, r, h, e, R, k⟩ => by
  subst e
  refine ⟨w, r, h, rfl, R.rel, SK.cut R (fun x h1 w1 v1 l1 R1 q1 k1 => ?_) k⟩
  split at k1
  · rename_i y hy
    obtain ⟨w2, eH, l2, R2, q2⟩ := q1.keep R1 l1 hy
    have := k1 w2 _ ((R.le' l2 R2).set_v (i := i) q2)
    rw [eH] at this
    exact this
  · exact k1.elim
theorem b_own' {i : Nat} (hp : PAsg X W st i fa) : PSs' X W w0 M0 st (sOwn i fa) := PS.weak hp fun D σ H ⟨w, r, h, e, R, k⟩ => by
  subst e
  refine ⟨w, r, h, rfl, R.rel, SK.cut R (fun x h1 w1 v1 l1 R1 q1 k1 => ?_) k⟩
  split at k1
  · rename_i xs
    exact k1 w1 _ (R.set_own l1 R1 q1)
  · exact k1.elim
theorem b_heap {i : Nat} (hp : PAsg X W st i fa) : PSs' X W w0 M0 st (sHeap i fa) := PS.weak hp fun D σ H ⟨w, r, h, e, R, k⟩ => by
  subst e
  refine ⟨w, r, h, rfl, R.rel, SK.cut R (fun x h1 w1 v1 l1 R1 q1 k1 => ?_) k⟩
  split at k1
  · rename_i xs
    obtain ⟨p, ys, e, e0, e1, q, hp, u⟩ := q1
    subst e
    refine k1 (w1.grow p) _ ((R.grow l1 R1 e0 hp u (show RObj X.K X.mg w1 p (.lst xs) from ⟨ys, e1, q⟩)).set_v (i := i) ⟨?_, ?_⟩)
    · rw [R1.len]
      exact Nat.lt_succ_self _
    · rw [R1.len, grow_at]
  · exact k1.elim
theorem b_retOwn {i : Nat} {x : Str} (hN : X.N[i]? = some x := by rfl) (hv : Vis X.env.scope x := by first | exact Or.inl rfl | exact Or.inr (Or.inl rfl) | exact Or.inr (Or.inr rfl)) (hd : (x == ("__debug__" : Str)) = false := by decide)
    (hcd : (x == ("__classdict__" : Str)) = false := by decide) : PSs' X W w0 (fun _ => False) (.Return (some (.Name x pos')) pos) (sRetOwn i) := PS.weak (ps_ret (pe_var hN hv hd hcd)) fun D σ H ⟨w, r, h, e, R, k⟩ => by
  subst e
  unfold sRetOwn at k
  split at k
  · rename_i xs hx
    obtain ⟨v, e1, p, ys, e2, s1, s2, s3, s4⟩ := R.rel.sl i _ hx
    subst e2
    refine ⟨.ref p, e1, k w _ R.le R.rel.hp ⟨p, ys, rfl, ?_, s1, s2, s3, s4⟩⟩
    exact (R.fr p ⟨i, xs, hx, e1⟩).elim (fun z => z.elim) id
  · exact k.elim
/-- slot.append(e) -/
theorem b_app (i : Nat) {x : Str} {p1 p2 p3 p4 : Pos} (ha : PEs X W a fa) (hN : X.N[i]? = some x := by rfl) (hv : Vis X.env.scope x := by first | exact Or.inl rfl | exact Or.inr (Or.inl rfl) | exact Or.inr (Or.inr rfl)) (hd : (x == ("__debug__" : Str)) = false := by decide)
    (hcd : (x == ("__classdict__" : Str)) = false := by decide) (hbase : PySem.attributeBase (.Name x p1) "append" X.env (PySem.eval (.Name x p1) X.env) = PySem.eval (.Name x p1) X.env := by rfl)
    (hfew : ((PySem.backTo p3 (PySem.starEach [a] X.env)).all (fun x => !x.1) && (PySem.backToKw p3 (PySem.keywordEach [] X.env)).all (fun x => x.1.isSome)
      && decide ([a].length + ([] : List PySem.Keyword).length + (if ([] : List PySem.Keyword).isEmpty then 0 else 1) < 30)) = true := by rfl)
    (hline : (p2.endLine == p3.line) = true := by rfl) (hs : PySem.starEach [a] X.env = (false, PySem.eval a X.env) :: PySem.starEach [] X.env := by rfl) (hplain : (PySem.backTo p3 (PySem.starEach [] X.env)).any (·.1) = false := by rfl)
    (hsw : PySem.swapsWith (.Call (.Attribute (.Name x p1) "append" p2) [a] [] p3) none p4.line X.env = pure false := by rfl) :
    PSs' X W w0 M0 (.Expr (.Call (.Attribute (.Name x p1) "append" p2) [a] [] p3) p4) (sApp i fa) :=
  PS.weak (ps_expr (pe_bm PySem.F.plainAttrs_list PySem.F.slot_list_append PySem.F.type_list_append mt_append (pe_var hN hv hd hcd) (pa_cons ha pa_nil hs) hbase hfew hline hs hplain) hsw) fun D σ H ⟨w, r, h, e, R, k⟩ => by
    subst e
    unfold sApp at k
    split at k
    · rename_i xs hx
      obtain ⟨v, e1, l, ys, e2, s1, s2, s3, s4⟩ := R.rel.sl i _ hx
      subst e2
      refine ⟨.ref l, e1, .inl ⟨rfl, ys, .of s1⟩, w, r, h, rfl, R.rel, SK.cut R (fun x h1 w1 v1 l1 R1 q1 k1 => ?_) k⟩
      split at k1
      · rename_i y hy
        split at k1
        · rename_i hz
          obtain ⟨w2, eH, l2, R2, q2⟩ := q1.keep R1 l1 hy
          have e3 : w2.H l = some (.lst ys) := l2.keep l _ s1 s4
          have s5 := s2.le R.rel.hp l2
          refine ⟨l, ys, v1, rfl, rfl, eH ▸ e3, by rw [← s2.length]; exact hz, ?_⟩
          have := k1 _ _ ((R.le' l2 R2).upd_own hx e1 (s5.append (RVals.one q2)))
          unfold Rw.updO at this
          rw [eH] at this
          exact this
        · exact k1.elim
      · exact k1.elim
    · exact k.elim
/-- slot.extend(e) -/
theorem b_ext (i : Nat) {x : Str} {p1 p2 p3 p4 : Pos} (ha : PEs X W a fa) (hN : X.N[i]? = some x := by rfl) (hv : Vis X.env.scope x := by first | exact Or.inl rfl | exact Or.inr (Or.inl rfl) | exact Or.inr (Or.inr rfl)) (hd : (x == ("__debug__" : Str)) = false := by decide)
    (hcd : (x == ("__classdict__" : Str)) = false := by decide) (hbase : PySem.attributeBase (.Name x p1) "extend" X.env (PySem.eval (.Name x p1) X.env) = PySem.eval (.Name x p1) X.env := by rfl)
    (hfew : ((PySem.backTo p3 (PySem.starEach [a] X.env)).all (fun x => !x.1) && (PySem.backToKw p3 (PySem.keywordEach [] X.env)).all (fun x => x.1.isSome)
      && decide ([a].length + ([] : List PySem.Keyword).length + (if ([] : List PySem.Keyword).isEmpty then 0 else 1) < 30)) = true := by rfl)
    (hline : (p2.endLine == p3.line) = true := by rfl) (hs : PySem.starEach [a] X.env = (false, PySem.eval a X.env) :: PySem.starEach [] X.env := by rfl) (hplain : (PySem.backTo p3 (PySem.starEach [] X.env)).any (·.1) = false := by rfl)
    (hsw : PySem.swapsWith (.Call (.Attribute (.Name x p1) "extend" p2) [a] [] p3) none p4.line X.env = pure false := by rfl) :
    PSs' X W w0 M0 (.Expr (.Call (.Attribute (.Name x p1) "extend" p2) [a] [] p3) p4) (sExt i fa) :=
  PS.weak (ps_expr (pe_bm PySem.F.plainAttrs_list PySem.F.slot_list_extend PySem.F.type_list_extend mt_extend (pe_var hN hv hd hcd) (pa_cons ha pa_nil hs) hbase hfew hline hs hplain) hsw) fun D σ H ⟨w, r, h, e, R, k⟩ => by
    subst e
    unfold sExt at k
    split at k
    · rename_i xs hx
      obtain ⟨v, e1, l, ys, e2, s1, s2, s3, s4⟩ := R.rel.sl i _ hx
      subst e2
      refine ⟨.ref l, e1, .inl ⟨rfl, ys, .of s1⟩, w, r, h, rfl, R.rel, SK.cut R (fun x h1 w1 v1 l1 R1 q1 k1 => ?_) k⟩
      split at k1
      · rename_i zs hy
        split at k1
        · rename_i hz
          obtain ⟨b, us, eb, eb2, qb⟩ := lookL_ok R1 q1 hy
          subst eb
          have e3 : w1.H l = some (.lst ys) := l1.keep l _ s1 s4
          have s5 := s2.le R.rel.hp l1
          refine ⟨l, b, ys, us, rfl, rfl, e3, eb2, by rw [← s2.length, ← qb.length]; exact hz, ?_⟩
          exact k1 _ _ ((R.le' l1 R1).upd_own hx e1 (s5.append qb))
        · exact k1.elim
      · exact k1.elim
    · exact k.elim
/-- slot[k] = e -/
theorem b_setIx (i : Nat) {x : Str} {p1 p2 : Pos} (ha : PEs X W a fa) (hb : PEs X W b fb) (hN : X.N[i]? = some x := by rfl) (hv : Vis X.env.scope x := by first | exact Or.inl rfl | exact Or.inr (Or.inl rfl) | exact Or.inr (Or.inr rfl)) (hd : (x == ("__debug__" : Str)) = false := by decide)
    (hcd : (x == ("__classdict__" : Str)) = false := by decide)
    (hs : PySem.swapsWithSole [.Subscript (.Name x p1) b p2] a pos.line X.env = pure false := by rfl) (hw : PySem.swappedStores [.Subscript (.Name x p1) b p2] a X.env = pure none := by rfl)
    (h1 : (PySem.assignEach [.Subscript (.Name x p1) b p2] X.env).map (·.2) = [PySem.assign (.Subscript (.Name x p1) b p2) X.env] := by rfl)
    (hg : ∀ v, PySem.assign (.Subscript (.Name x p1) b p2) X.env v = (do
      let ov ← PySem.holding [v] (PySem.eval (.Name x p1) X.env)
      let iv ← PySem.holding [v, ov] (PySem.eval b X.env)
      PySem.standAt p2
      PySem.holding [v, ov, iv] (PySem.setItem ov iv v)
      PySem.release [v, ov, iv] []) := by intro _; rfl) :
    PSs' X W w0 M0 (.Assign [.Subscript (.Name x p1) b p2] a pos) (sSetIx i fb fa) :=
  PS.weak (ps_asg ha (pg_sub (pe_var hN hv hd hcd) hb set_list hg) hs hw h1) fun D σ H ⟨w, r, h, e, R, k⟩ => by
    subst e
    refine ⟨w, r, h, rfl, R.rel, SK.cut R (fun x h1 w1 v1 l1 R1 q1 k1 => ?_) k⟩
    split at k1
    · rename_i y hy
      split at k1
      · rename_i xs hx
        obtain ⟨v, e1, l, ys, e2, s1, s2, s3, s4⟩ := R.rel.sl i _ hx
        subst e2
        obtain ⟨w2, eH, l2, R2, q2⟩ := q1.keep R1 l1 hy
        refine ⟨.ref l, e1, w2, r, h1, eH, R.rel.le l2 R2, SK.cut (R.le' l2 R2) (fun j h3 w3 v3 l3 R3 q3 k3 => ?_) k1⟩
        split at k3
        · rename_i j
          split at k3
          · rename_i n hn
            have e4 : v3 = .int j := q3
            subst e4
            have l4 := l2.trans l3
            have s5 := s2.le R.rel.hp l4
            refine ⟨l, ys, j, n, rfl, rfl, l4.keep l _ s1 s4, by rw [← s2.length]; exact hn, ?_⟩
            exact k3 _ _ ((R.le' l4 R3).upd_own hx e1 (s5.set (q2.le R2 l3) n))
          · exact k3.elim
        · exact k3.elim
      · exact k1.elim
    · exact k1.elim
/-- o[k] = e, o a list of the heap -/
theorem b_setHp {p2 : Pos} (ha : PEs X W a fa) (hc : PEs X W c fc) (hb : PEs X W b fb)
    (hs : PySem.swapsWithSole [.Subscript c b p2] a pos.line X.env = pure false := by rfl) (hw : PySem.swappedStores [.Subscript c b p2] a X.env = pure none := by rfl)
    (h1 : (PySem.assignEach [.Subscript c b p2] X.env).map (·.2) = [PySem.assign (.Subscript c b p2) X.env] := by rfl)
    (hg : ∀ v, PySem.assign (.Subscript c b p2) X.env v = (do
      let ov ← PySem.holding [v] (PySem.eval c X.env)
      let iv ← PySem.holding [v, ov] (PySem.eval b X.env)
      PySem.standAt p2
      PySem.holding [v, ov, iv] (PySem.setItem ov iv v)
      PySem.release [v, ov, iv] []) := by intro _; rfl) :
    PSs' X W w0 M0 (.Assign [.Subscript c b p2] a pos) (sSetHp fc fb fa) :=
  PS.weak (ps_asg ha (pg_sub hc hb set_list hg) hs hw h1) fun D σ H ⟨w, r, h, e, R, k⟩ => by
    subst e
    refine ⟨w, r, h, rfl, R.rel, SK.cut R (fun x h1 w1 v1 l1 R1 q1 k1 => ?_) k⟩
    split at k1
    · rename_i y hy
      obtain ⟨w2, eH, l2, R2, q2⟩ := q1.keep R1 l1 hy
      refine ⟨w2, r, h1, eH, R.rel.le l2 R2, SK.cut (R.le' l2 R2) (fun o h3 w3 v3 l3 R3 q3 k3 => ?_) k1⟩
      split at k3
      · rename_i m
        have l23 := l2.trans l3
        refine ⟨w3, r, h3, rfl, R.rel.le l23 R3, SK.cut (R.le' l23 R3) (fun j h4 w4 v4 l4 R4 q4 k4 => ?_) k3⟩
        split at k4
        · rename_i j
          split at k4
          · rename_i xs hm
            split at k4
            · rename_i n hn
              have e4 : v4 = .int j := q4
              subst e4
              obtain ⟨hk, ev⟩ := (q3.le R3 l4 : RVal X.K w4 (.obj m) v3)
              subst ev
              obtain ⟨ys, ey, qy⟩ := R4.obj m _ hm
              refine ⟨_, ys, j, n, rfl, rfl, ey, by rw [← qy.length]; exact hn, ?_⟩
              have q5 := (q2.le R2 l3).le R3 l4
              exact k4 (w4.updO (w4.io m) _) σ ((R.le' (l23.trans l4) R4).le' (Le.upd_obj hk) (R4.upd_obj hm (qy.set q5 n)))
            · exact k4.elim
          · exact k4.elim
        · exact k4.elim
      · exact k3.elim
    · exact k1.elim
/-- slot op= e -/
theorem b_aug (i : Nat) {x : Str} {op : Operator} {f : F2} {r2 : R2} (hN : X.N.Nodup) (ho : OpR X (PySem.inplaceOp op) r2) (hf : F2Ok X.K X.mg f r2) (ha : PEs X W a fa) (hi : X.N[i]? = some x := by rfl) (hx : Loc X.env.scope x := by first | exact Or.inl rfl | exact Or.inr rfl) (hfn : X.fn x = true ∨ X.env.scope.names.lookup x = some .local := by first | exact .inl rfl | exact .inr rfl | assumption) :
    PSs' X W w0 M0 (.AugAssign (.Name x pos') op a pos) (sAug i f fa) := PS.weak (ps_aug hN hi hx ha (show PIp X op r2 from ho) hfn) fun D σ H ⟨w, r, h, e, R, k⟩ => by
  subst e
  unfold sAug at k
  split at k
  · rename_i y hy
    obtain ⟨v, e1, s⟩ := R.rel.sl i _ hy
    refine ⟨v, e1, w, r, h, rfl, R.rel, SK.cut R (fun x h1 w1 v1 l1 R1 q1 k1 => ?_) k⟩
    have s' : RRes X.K w1 w1 (.v y) v := RVal.le R.rel.hp l1 s
    split at k1
    · rename_i z hz
      split at k1
      · rename_i u hu
        refine hf w1 w1 w h1 (.v y) x z v v1 _ R1 s' q1 hz fun w2 v2 l2 R2 q2 => ?_
        obtain ⟨w3, eH, l3, R3, q3⟩ := q2.keep R2 l2 hu
        have := k1 w3 _ ((R.le' (l1.trans l3) R3).set_v (i := i) q3)
        rw [eH] at this
        exact this
      · exact k1.elim
    · exact k1.elim
  · exact k.elim
theorem b_augAdd (i : Nat) {x : Str} (hN : X.N.Nodup) (ha : PEs X W a fa) (hi : X.N[i]? = some x := by rfl) (hx : Loc X.env.scope x := by first | exact Or.inl rfl | exact Or.inr rfl) (hfn : X.fn x = true ∨ X.env.scope.names.lookup x = some .local := by first | exact .inl rfl | exact .inr rfl | assumption) :
    PSs' X W w0 M0 (.AugAssign (.Name x pos') .Add a pos) (sAug i (fI0 fun i j => .int (i + j)) fa) := b_aug i hN iop_add (fI0_ok fun _ _ _ => rfl) ha hi hx hfn
theorem b_augSub (i : Nat) {x : Str} (hN : X.N.Nodup) (ha : PEs X W a fa) (hi : X.N[i]? = some x := by rfl) (hx : Loc X.env.scope x := by first | exact Or.inl rfl | exact Or.inr rfl) (hfn : X.fn x = true ∨ X.env.scope.names.lookup x = some .local := by first | exact .inl rfl | exact .inr rfl | assumption) :
    PSs' X W w0 M0 (.AugAssign (.Name x pos') .Sub a pos) (sAug i fSub fa) := b_aug i hN iop_sub (fI0_ok fun _ _ _ => rfl) ha hi hx hfn
end
end SM

/-! SMZip: zip of two sequences, each a list or a tuple. -/
namespace SMZ
open PySem RZ
/-- an iterator over a tuple (t) or a list, at place i -/
def ItOf (t : Bool) (h : Heap) (it l : Addr) (i : Nat) : Prop := match t with
  | true => h.IsTupleIter it l i
  | false => h.IsListIter it l i
def SqOf (t : Bool) (h : Heap) (l : Addr) (xs : Array Value) : Prop := match t with
  | true => h.IsTuple l xs
  | false => h.IsList l xs
def itName (t : Bool) : String := if t then "tuple_iterator" else "list_iterator"
def itObj (t : Bool) (l : Addr) : Obj := { cls := .type (itName t), data := .fields #[.ref l, .int 0 0] }
theorem ItOf.extBut {t : Bool} {h h' : Heap} {a b l : Addr} {i : Nat} (x : ItOf t h a l i) (hs : Heap.ExtBut b h h') (hab : a ≠ b) : ItOf t h' a l i := by
  cases t
  · exact Heap.IsListIter.extBut x hs hab
  · exact Heap.IsTupleIter.extBut x hs hab
theorem SqOf.extBut {t : Bool} {h h' : Heap} {a b : Addr} {xs : Array Value} (x : SqOf t h a xs) (hs : Heap.ExtBut b h h') (hab : a ≠ b) : SqOf t h' a xs := by
  cases t
  · exact Heap.IsList.extBut x hs hab
  · exact Heap.IsTuple.extBut x hs hab
theorem ItOf.to {t : Bool} {h h' : Heap} {a l : Addr} {i : Nat} (x : ItOf t h a l i) (k : ∀ o, h.get? a = some o → h'.get? a = some o) : ItOf t h' a l i := by
  cases t
  · obtain ⟨o, e, c⟩ := x
    exact ⟨o, k o e, c⟩
  · obtain ⟨o, e, c⟩ := x
    exact ⟨o, k o e, c⟩
theorem ItOf.there {t : Bool} {h : Heap} {a l : Addr} {i : Nat} (x : ItOf t h a l i) : ∃ o, h.get? a = some o ∧ ∀ v, o.data ≠ .cell v := by
  cases t
  · obtain ⟨o, e, _, d⟩ := x
    exact ⟨o, e, fun v z => by rw [d] at z; cases z⟩
  · obtain ⟨o, e, _, d⟩ := x
    exact ⟨o, e, fun v z => by rw [d] at z; cases z⟩
theorem SqOf.lt {t : Bool} {h : Heap} {a : Addr} {xs : Array Value} (x : SqOf t h a xs) : a < h.objs.size := by
  cases t
  · obtain ⟨o, e, _⟩ := x
    exact Heap.lt_size e
  · obtain ⟨o, e, _⟩ := x
    exact Heap.lt_size e
section
variable {prog : Program} {w : World} {A : Around} {E : Value → Shared → Prop} {s : Shared}
theorem next_item {t : Bool} {it l : Addr} {i : Nat} {items : Array Value} {x : Value} {Q : Value → Shared → Prop} (hit : ItOf t s.heap it l i) (hl : SqOf t s.heap l items) (hx : items[i]? = some x)
    (hQ : ∀ h', ItOf t h' it l (i + 1) → Heap.SameBut it s.heap h' → Q x { s with heap := h' }) : wpAny (model prog w) A (Builtin.SmallTypes.nextOf (.ref it)) Q E s := by
  cases t
  · exact wpAny_nextOf_list_item hit hl hx hQ
  · exact nextOf_tuple_item hit hl hx hQ
theorem next_end {t : Bool} {it l : Addr} {i : Nat} {items : Array Value} {Q : Value → Shared → Prop} (hh : A.handled = none) (hit : ItOf t s.heap it l i) (hl : SqOf t s.heap l items) (hx : items[i]? = none)
    (hE : ∀ h' e, Heap.ExtBut it s.heap h' → (∃ o, h'.get? e = some o ∧ o.cls = .type "StopIteration") → E (.ref e) { s with heap := h' }) : wpAny (model prog w) A (Builtin.SmallTypes.nextOf (.ref it)) Q E s := by
  cases t
  · exact wpAny_nextOf_list_end hh hit hl hx hE
  · exact nextOf_tuple_end hh hit hl hx hE
variable {t u : Bool} {z TI TO i1 i2 l1 l2 : Addr} {k1 k2 : Nat} {xs ys : Array Value} {x y a b : Value}
theorem step_item {Q : Value → Shared → Prop} (D : ZipApart z TI TO i1 i2 l1 l2) (hz : IsZip s.heap z TI TO .none) (hTI : IsPair s.heap TI (.ref i1) (.ref i2)) (hTO : IsPair s.heap TO a b)
    (h1 : ItOf t s.heap i1 l1 k1) (h2 : ItOf u s.heap i2 l2 k2) (hl1 : SqOf t s.heap l1 xs) (hl2 : SqOf u s.heap l2 ys) (hx : xs[k1]? = some x) (hy : ys[k2]? = some y)
    (hQ : ∀ h', IsZip h' z TI TO (rawInt s.heap.objs.size) → IsPair h' TO x y → ItOf t h' i1 l1 (k1 + 1) → ItOf u h' i2 l2 (k2 + 1) → IsPair h' s.heap.objs.size x y → h'.objs.size = s.heap.objs.size + 1 →
      (∀ c o, c ≠ z → c ≠ TO → c ≠ i1 → c ≠ i2 → s.heap.get? c = some o → h'.get? c = some o) → Q (.ref s.heap.objs.size) { s with heap := h' }) :
    wpAny (model prog w) A (Builtin.«zip.__next__» ⟨[.ref z], []⟩) (fun fin s' => ∃ v, fin = .done (.ret v) ∧ Q v s') E s := by
  show wpAny _ _ (field (.ref z) 2 >>= _) _ _ _
  refine wpAny_bind (wpAny_field hz rfl (x := .bool false) rfl ?_)
  show wpAny _ _ (field (.ref z) 3 >>= _) _ _ _
  refine wpAny_bind (wpAny_field hz rfl (x := .ref TI) rfl (wpAny_bind (wpAny_seqItems hTI rfl ?_)))
  show wpAny _ _ (Builtin.SmallTypes.ownedTupleIsFree (.ref z) >>= _) _ _ _
  refine wpAny_bind ?_
  unfold Builtin.SmallTypes.ownedTupleIsFree
  refine wpAny_bind (wpAny_field hz rfl (x := .none) rfl (wpAny_pure ?_))
  simp only [if_true]
  refine wpAny_bind (wpAny_rule (wpAny_bind (wpAny_field hz rfl (x := .ref TO) rfl (wpAny_bind (wpAny_setField_rec hz (by simp) fun g1 hz1 s1 => ?_)))))
  replace hz1 : IsZip g1 z TI TO .ellipsis := hz1
  refine wpAny_bind ?_
  simp only [List.zipIdx_cons, List.zipIdx_nil, List.forIn_cons, List.forIn_nil]
  refine wpAny_bind (wpAny_bind (wpAny_onRaise ?_))
  show wpAny _ _ (Builtin.SmallTypes.nextOf (.ref i1) >>= _) _ _ _
  refine wpAny_bind (next_item (h1.extBut s1.extBut D.i1z) (hl1.extBut s1.extBut D.l1z) hx fun g2 a1 s2 => wpAny_pure ?_)
  have p2 : IsPair g2 TO a b := s2.extBut _ _ D.TOi1 (s1.extBut _ _ D.TOz hTO)
  refine wpAny_bind (wpAny_seqItems p2 rfl (wpAny_bind (wpAny_updateSeq_pair p2 fun g3 p3 s3 => ?_)))
  replace p3 : IsPair g3 TO x b := p3
  refine wpAny_bind (wpAny_letGo (wpAny_pure (wpAny_bind (wpAny_bind (wpAny_onRaise ?_)))))
  show wpAny _ _ (Builtin.SmallTypes.nextOf (.ref i2) >>= _) _ _ _
  have j2 : ItOf u g3 i2 l2 k2 := ((h2.extBut s1.extBut D.i2z).extBut s2.extBut D.i12.symm).extBut s3.extBut D.TOi2.symm
  have m2 : SqOf u g3 l2 ys := ((hl2.extBut s1.extBut D.l2z).extBut s2.extBut D.l2i1).extBut s3.extBut D.l2TO
  refine wpAny_bind (next_item j2 m2 hy fun g4 a2 s4 => wpAny_pure ?_)
  have p4 : IsPair g4 TO x b := s4.extBut _ _ D.TOi2 p3
  refine wpAny_bind (wpAny_seqItems p4 rfl (wpAny_bind (wpAny_updateSeq_pair p4 fun g5 p5 s5 => ?_)))
  replace p5 : IsPair g5 TO x y := p5
  refine wpAny_bind (wpAny_letGo (wpAny_pure (wpAny_pure (wpAny_bind (wpAny_seqItems p5 rfl (wpAny_bind (wpAny_newTuple ?_)))))))
  have size5 : g5.objs.size = s.heap.objs.size := by rw [s5.1, s4.1, s3.1, s2.1, s1.1]
  have z5 : IsZip g5 z TI TO .ellipsis := s5.extBut _ _ D.TOz.symm (s4.extBut _ _ D.i2z.symm (s3.extBut _ _ D.TOz.symm (s2.extBut _ _ D.i1z.symm hz1)))
  have keep5 : ∀ c o, c ≠ z → c ≠ TO → c ≠ i1 → c ≠ i2 → s.heap.get? c = some o → g5.get? c = some o := fun c o c1 c2 c3 c4 e =>
    s5.extBut _ _ c2 (s4.extBut _ _ c4 (s3.extBut _ _ c2 (s2.extBut _ _ c3 (s1.extBut _ _ c1 e))))
  have b1 : ItOf t g5 i1 l1 (k1 + 1) := ((a1.extBut s3.extBut D.TOi1.symm).extBut s4.extBut D.i12).extBut s5.extBut D.TOi1.symm
  have b2 : ItOf u g5 i2 l2 (k2 + 1) := a2.extBut s5.extBut D.TOi2.symm
  have zlt : z < g5.objs.size := Heap.lt_size z5
  show wpAny _ _ (Builtin.SmallTypes.ownedTupleHandOut (.ref z) (.ref g5.objs.size) >>= _) _ _ _
  refine wpAny_bind ?_
  unfold Builtin.SmallTypes.ownedTupleHandOut
  have z6 : IsZip (g5.push { cls := .type "tuple", data := .seq #[x, y] }) z TI TO .ellipsis := Heap.get?_push_of_some _ z5
  refine wpAny_bind (wpAny_setField_rec z6 (by simp) fun g7 hz7 s7 => ?_)
  replace hz7 : IsZip g7 z TI TO (rawInt g5.objs.size) := hz7
  refine wpAny_setField_rec hz7 (by simp) fun g8 hz8 s8 => ?_
  replace hz8 : IsZip g8 z TI TO (rawInt g5.objs.size) := hz8
  have up : ∀ c o, c ≠ z → g5.get? c = some o → g8.get? c = some o := fun c o c1 e => s8.extBut _ _ c1 (s7.extBut _ _ c1 (Heap.get?_push_of_some _ e))
  have pT : IsPair g8 g5.objs.size x y := s8.extBut _ _ (Nat.ne_of_gt zlt) (s7.extBut _ _ (Nat.ne_of_gt zlt) (Heap.get?_push_size _ rfl))
  have size8 : g8.objs.size = g5.objs.size + 1 := by rw [s8.1, s7.1, Heap.size_push]
  rw [size5] at hz8 pT size8
  refine wpAny_pure ⟨_, rfl, ?_⟩
  show Q (.ref g5.objs.size) _
  rw [size5]
  exact hQ g8 hz8 (up _ _ D.TOz p5) (b1.to fun o e => up _ o D.i1z e) (b2.to fun o e => up _ o D.i2z e) pT size8 fun c o c1 c2 c3 c4 e => up c o c1 (keep5 c o c1 c2 c3 c4 e)
theorem step_end {Q : Fin → Shared → Prop} (hh : A.handled = none) (D : ZipApart z TI TO i1 i2 l1 l2) (hz : IsZip s.heap z TI TO .none) (hTI : IsPair s.heap TI (.ref i1) (.ref i2)) (hTO : IsPair s.heap TO a b)
    (h1 : ItOf t s.heap i1 l1 k1) (h2 : ItOf u s.heap i2 l2 k2) (hl1 : SqOf t s.heap l1 xs) (hl2 : SqOf u s.heap l2 ys) (hend : xs[k1]? = none ∨ ys[k2]? = none)
    (hE : ∀ h' e, (∀ c o, c ≠ z → c ≠ TO → c ≠ i1 → c ≠ i2 → s.heap.get? c = some o → h'.get? c = some o) → (∃ o, h'.get? e = some o ∧ o.cls = .type "StopIteration") → E (.ref e) { s with heap := h' }) :
    wpAny (model prog w) A (Builtin.«zip.__next__» ⟨[.ref z], []⟩) Q E s := by
  show wpAny _ _ (field (.ref z) 2 >>= _) _ _ _
  refine wpAny_bind (wpAny_field hz rfl (x := .bool false) rfl ?_)
  show wpAny _ _ (field (.ref z) 3 >>= _) _ _ _
  refine wpAny_bind (wpAny_field hz rfl (x := .ref TI) rfl (wpAny_bind (wpAny_seqItems hTI rfl ?_)))
  show wpAny _ _ (Builtin.SmallTypes.ownedTupleIsFree (.ref z) >>= _) _ _ _
  refine wpAny_bind ?_
  unfold Builtin.SmallTypes.ownedTupleIsFree
  refine wpAny_bind (wpAny_field hz rfl (x := .none) rfl (wpAny_pure ?_))
  simp only [if_true]
  refine wpAny_bind (wpAny_rule (wpAny_bind (wpAny_field hz rfl (x := .ref TO) rfl (wpAny_bind (wpAny_setField_rec hz (by simp) fun g1 hz1 s1 => ?_)))))
  replace hz1 : IsZip g1 z TI TO .ellipsis := hz1
  refine wpAny_bind ?_
  simp only [List.zipIdx_cons, List.zipIdx_nil, List.forIn_cons, List.forIn_nil]
  refine wpAny_bind (wpAny_bind (wpAny_onRaise ?_))
  show wpAny _ _ (Builtin.SmallTypes.nextOf (.ref i1) >>= _) _ _ _
  cases hx : xs[k1]? with
  | none =>
    refine wpAny_bind (next_end hh (h1.extBut s1.extBut D.i1z) (hl1.extBut s1.extBut D.l1z) hx fun g2 e s2 ⟨oe, ho, hc⟩ => ?_)
    have hz2 : IsZip g2 z TI TO .ellipsis := s2 _ _ D.i1z.symm hz1
    have ne : e ≠ z := fun q => by
      rw [q, hz2] at ho
      cases ho
      simp at hc
    exact wpAny_setField_rec hz2 (by simp) fun g3 _ s3 => hE g3 e (fun c o c1 _ c3 _ q => s3.extBut _ _ c1 (s2 _ _ c3 (s1.extBut _ _ c1 q))) ⟨oe, s3.extBut _ _ ne ho, hc⟩
  | some x =>
    have hy : ys[k2]? = none := hend.elim (fun q => by rw [hx] at q; cases q) id
    refine wpAny_bind (next_item (h1.extBut s1.extBut D.i1z) (hl1.extBut s1.extBut D.l1z) hx fun g2 _ s2 => wpAny_pure ?_)
    have p2 : IsPair g2 TO a b := s2.extBut _ _ D.TOi1 (s1.extBut _ _ D.TOz hTO)
    refine wpAny_bind (wpAny_seqItems p2 rfl (wpAny_bind (wpAny_updateSeq_pair p2 fun g3 p3 s3 => ?_)))
    refine wpAny_bind (wpAny_letGo (wpAny_pure (wpAny_bind (wpAny_bind (wpAny_onRaise ?_)))))
    show wpAny _ _ (Builtin.SmallTypes.nextOf (.ref i2) >>= _) _ _ _
    have j2 : ItOf u g3 i2 l2 k2 := ((h2.extBut s1.extBut D.i2z).extBut s2.extBut D.i12.symm).extBut s3.extBut D.TOi2.symm
    have m2 : SqOf u g3 l2 ys := ((hl2.extBut s1.extBut D.l2z).extBut s2.extBut D.l2i1).extBut s3.extBut D.l2TO
    refine wpAny_bind (next_end hh j2 m2 hy fun g4 e s4 ⟨oe, ho, hc⟩ => ?_)
    have hz4 : IsZip g4 z TI TO .ellipsis := s4 _ _ D.i2z.symm (s3.extBut _ _ D.TOz.symm (s2.extBut _ _ D.i1z.symm hz1))
    have ne : e ≠ z := fun q => by
      rw [q, hz4] at ho
      cases ho
      simp at hc
    exact wpAny_setField_rec hz4 (by simp) fun g5 _ s5 => hE g5 e (fun c o c1 c2 c3 c4 q => s5.extBut _ _ c1 (s4 _ _ c4 (s3.extBut _ _ c2 (s2.extBut _ _ c3 (s1.extBut _ _ c1 q))))) ⟨oe, s5.extBut _ _ ne ho, hc⟩
theorem py_item {Q : Option Value → Shared → Prop} (D : ZipApart z TI TO i1 i2 l1 l2) (hz : IsZip s.heap z TI TO .none) (hTI : IsPair s.heap TI (.ref i1) (.ref i2)) (hTO : IsPair s.heap TO a b)
    (h1 : ItOf t s.heap i1 l1 k1) (h2 : ItOf u s.heap i2 l2 k2) (hl1 : SqOf t s.heap l1 xs) (hl2 : SqOf u s.heap l2 ys) (hx : xs[k1]? = some x) (hy : ys[k2]? = some y)
    (hQ : ∀ h', IsZip h' z TI TO (rawInt s.heap.objs.size) → IsPair h' TO x y → ItOf t h' i1 l1 (k1 + 1) → ItOf u h' i2 l2 (k2 + 1) → IsPair h' s.heap.objs.size x y → h'.objs.size = s.heap.objs.size + 1 →
      (∀ c o, c ≠ z → c ≠ TO → c ≠ i1 → c ≠ i2 → s.heap.get? c = some o → h'.get? c = some o) → Q (some (.ref s.heap.objs.size)) { s with heap := h' }) : wpAny (model prog w) A (pyNext (.ref z)) Q E s := by
  have hT : s.TypeIs (.ref z) "zip" := ⟨_, hz, rfl⟩
  unfold pyNext
  exact wpAny_bind (wpAny_attempt (wpAny_callSpecial?_slot (name := Str.ofString "__next__") hT F.slot_zip_next (wpAny_call_entry F.slot_zip_next hT F.entry_zip_next
    (step_item D hz hTI hTO h1 h2 hl1 hl2 hx hy fun h' q1 q2 q3 q4 q5 q6 q7 => wpAny_pure (hQ h' q1 q2 q3 q4 q5 q6 q7)) (F.args_zip_next_1 _))))
theorem py_end {Q : Option Value → Shared → Prop} (hh : A.handled = none) (D : ZipApart z TI TO i1 i2 l1 l2) (hz : IsZip s.heap z TI TO .none) (hTI : IsPair s.heap TI (.ref i1) (.ref i2)) (hTO : IsPair s.heap TO a b)
    (h1 : ItOf t s.heap i1 l1 k1) (h2 : ItOf u s.heap i2 l2 k2) (hl1 : SqOf t s.heap l1 xs) (hl2 : SqOf u s.heap l2 ys) (hend : xs[k1]? = none ∨ ys[k2]? = none)
    (hQ : ∀ h', (∀ c o, c ≠ z → c ≠ TO → c ≠ i1 → c ≠ i2 → s.heap.get? c = some o → h'.get? c = some o) → Q none { s with heap := h' }) : wpAny (model prog w) A (pyNext (.ref z)) Q E s := by
  have hT : s.TypeIs (.ref z) "zip" := ⟨_, hz, rfl⟩
  unfold pyNext
  refine wpAny_bind (wpAny_attempt (wpAny_callSpecial?_slot (name := Str.ofString "__next__") hT F.slot_zip_next
    (wpAny_call_entry F.slot_zip_next hT F.entry_zip_next (step_end hh D hz hTI hTO h1 h2 hl1 hl2 hend fun h' e hk ⟨o, ho, hc⟩ => ?_) (F.args_zip_next_1 _))))
  exact wpAny_bind (wpAny_isInstance (T := "StopIteration") (b := true) ⟨o, ho, hc⟩ isSubtype_stop (wpAny_pure (hQ _ hk)))
end
abbrev H1 (t : Bool) (h : Heap) (l : Addr) : Heap := h.push (itObj t l)
abbrev H2 (t u : Bool) (h : Heap) (l m : Addr) : Heap := (H1 t h l).push (itObj u m)
abbrev H3 (t u : Bool) (h : Heap) (l m : Addr) : Heap := (H2 t u h l m).push { cls := .type "tuple", data := .seq #[.ref h.objs.size, .ref (H1 t h l).objs.size] }
abbrev H4 (t u : Bool) (h : Heap) (l m : Addr) : Heap := (H3 t u h l m).push { cls := .type "tuple", data := .seq #[.none, .none] }
abbrev H5 (t u : Bool) (h : Heap) (l m : Addr) : Heap := (H4 t u h l m).push { cls := .type "zip", data := .fields #[.none, .bool false, .bool false, .ref (H2 t u h l m).objs.size, .ref (H3 t u h l m).objs.size] }
theorem SqOf.push {t : Bool} {h : Heap} {l : Addr} {xs : Array Value} (x : SqOf t h l xs) (o : Obj) : SqOf t (h.push o) l xs := by
  cases t
  · obtain ⟨q, e, c⟩ := x
    exact ⟨q, Heap.get?_push_of_some _ e, c⟩
  · obtain ⟨q, e, c⟩ := x
    exact ⟨q, Heap.get?_push_of_some _ e, c⟩
theorem iter_of {prog : Program} {w : World} {A : Around} {E : Value → Shared → Prop} {s : Shared} {t : Bool} {l : Addr} {xs : Array Value} {Q : Value → Shared → Prop} (hl : SqOf t s.heap l xs)
    (h : Q (.ref s.heap.objs.size) { s with heap := s.heap.push (itObj t l) }) : wpAny (model prog w) A (pyIter (.ref l)) Q E s := by
  cases t
  · exact wpAny_pyIter_list hl h
  · exact wpAny_pyIter_tuple hl h
theorem meets_new (t u : Bool) (l m : Addr) (xs ys : Array Value) : Meets (Builtin.«zip.__new__» ⟨[.type "zip", .ref l, .ref m], []⟩) (fun _ R s => SqOf t s.heap l xs ∧ SqOf u s.heap m ys ∧
      R (.ok (.ret (.ref (H4 t u s.heap l m).objs.size))) { s with heap := H5 t u s.heap l m }) :=
  .of_wp fun prog w A R s h => by
    obtain ⟨hp, g, d, tk, os⟩ := s
    obtain ⟨hl1, hl2, h⟩ := h
    have hsub := sub_zip
    have q1 : SqOf t (Shared.heap ⟨hp, g, d, tk, os⟩) l xs := hl1
    have q2 : SqOf u (Shared.heap ⟨hp.push (itObj t l), g, d, tk, os⟩) m ys := hl2.push _
    wp_walk using iter_of q1, iter_of q2
    exact ⟨_, rfl, h⟩
section
variable {prog : Program} {w : World} {A : Around} {E : Value → Shared → Prop} {s : Shared}
theorem itOf_new {t : Bool} {h : Heap} {a l : Addr} (e : h.get? a = some (itObj t l)) : ItOf t h a l 0 := by
  cases t
  · exact ⟨_, e, rfl, rfl⟩
  · exact ⟨_, e, rfl, rfl⟩
theorem call_of {t u : Bool} {l m : Addr} {xs ys : Array Value} {Q : Value → Shared → Prop} (hl1 : SqOf t s.heap l xs) (hl2 : SqOf u s.heap m ys)
    (h : ∀ h', IsZip h' (s.heap.objs.size + 4) (s.heap.objs.size + 2) (s.heap.objs.size + 3) .none → IsPair h' (s.heap.objs.size + 2) (.ref s.heap.objs.size) (.ref (s.heap.objs.size + 1)) →
      IsPair h' (s.heap.objs.size + 3) .none .none → ItOf t h' s.heap.objs.size l 0 → ItOf u h' (s.heap.objs.size + 1) m 0 → h'.objs.size = s.heap.objs.size + 5 →
      (∀ c o, s.heap.get? c = some o → h'.get? c = some o) → Q (.ref (s.heap.objs.size + 4)) { s with heap := h' }) :
    wpAny (model prog w) A (call (.type "zip") [.ref l, .ref m]) Q E s := by
  refine callType_new F.called_zip (by decide) (F.typeCall_zip_2 _ _) (F.newCall_zip_2 _ _) (fun obj => F.args_object_init_3 obj _ _) F.entry_zip_new (meets_new t u l m xs ys) ⟨hl1, hl2, ?_⟩
  have n1 : (H1 t s.heap l).objs.size = s.heap.objs.size + 1 := Heap.size_push ..
  have n2 : (H2 t u s.heap l m).objs.size = s.heap.objs.size + 2 := by rw [Heap.size_push, n1]
  have n3 : (H3 t u s.heap l m).objs.size = s.heap.objs.size + 3 := by rw [Heap.size_push, n2]
  have n4 : (H4 t u s.heap l m).objs.size = s.heap.objs.size + 4 := by rw [Heap.size_push, n3]
  have n5 : (H5 t u s.heap l m).objs.size = s.heap.objs.size + 5 := by rw [Heap.size_push, n4]
  have p1 : ∀ {g : Heap} {o o' : Obj} {c : Addr}, g.get? c = some o → (g.push o').get? c = some o := fun e => Heap.get?_push_of_some _ e
  have e5 : (H5 t u s.heap l m).get? (H4 t u s.heap l m).objs.size = some _ := Heap.get?_push_size _ rfl
  have e4 : (H5 t u s.heap l m).get? (H3 t u s.heap l m).objs.size = some _ := p1 (Heap.get?_push_size _ rfl)
  have e3 : (H5 t u s.heap l m).get? (H2 t u s.heap l m).objs.size = some _ := p1 (p1 (Heap.get?_push_size _ rfl))
  have e2 : (H5 t u s.heap l m).get? (H1 t s.heap l).objs.size = some (itObj u m) := p1 (p1 (p1 (Heap.get?_push_size _ rfl)))
  have e1 : (H5 t u s.heap l m).get? s.heap.objs.size = some (itObj t l) := p1 (p1 (p1 (p1 (Heap.get?_push_size _ rfl))))
  show _ ∧ _
  rw [n2, n3, n4] at e5
  rw [n1, n2] at e3
  rw [n3] at e4
  rw [n1] at e2
  rw [n4]
  exact ⟨⟨_, e5, rfl⟩, h _ e5 e3 e4 (itOf_new e1) (itOf_new e2) n5 fun c o q => p1 (p1 (p1 (p1 (p1 q))))⟩
end
end SMZ

/-! SMZip2: loops and comprehensions over zip. -/
namespace SMZ
open PySem PyProof.Rows RZ L2
/-- a tuple (t) or a list as it stands -/
def SqK (t : Bool) (K : PySem.W.Frag) (H : Hp) (a : Addr) (xs : List V) : Prop := match t with
  | true => SqT K H a xs
  | false => SqL K H a xs
def ItZ (K : PySem.W.Frag) (t u : Bool) (a b : Addr) : It :=
  ⟨fun i H => ∃ (xs ys : List V) (x y : V), SqK t K H a xs ∧ SqK u K H b ys ∧ xs[i]? = some x ∧ ys[i]? = some y,
    fun i H v H' => ∃ T x y, v = .ref T ∧ H T = none ∧ H' = upd H T (.tup [x, y]) ∧ (∀ xs, SqK t K H a xs → xs[i]? = some x) ∧ ∀ ys, SqK u K H b ys → ys[i]? = some y,
    fun i H => ∃ xs ys : List V, SqK t K H a xs ∧ SqK u K H b ys ∧ (xs.length ≤ i ∨ ys.length ≤ i)⟩
section
variable {X : Cx} {pins : List (Addr × Obj)} {σ : L2.St} {H : Hp} {s : Shared} {a : Addr} {xs ys : List V}
theorem sq_at {t : Bool} (I : Inv X pins σ H s) (h : SqK t X.K H a xs) : ∃ its : List Value, Vals xs its ∧ SqOf t s.heap a its.toArray := by
  cases t
  · obtain ⟨its, r, p, _⟩ := I.list h
    exact ⟨its, r, p.isList⟩
  · obtain ⟨its, r, p, _⟩ := I.tuple h
    exact ⟨its, r, p⟩
theorem sq_inj {t : Bool} (I : Inv X pins σ H s) (h : SqK t X.K H a xs) (h' : SqK t X.K H a ys) : xs = ys := by
  cases t
  · exact I.list_inj h h'
  · exact I.tuple_inj h h'
end
theorem five {c z TI TO i1 i2 : Addr} (h : c ∈ [z, TI, TO, i1, i2]) : c = z ∨ c = TI ∨ c = TO ∨ c = i1 ∨ c = i2 := by simpa using h
theorem turn_z {P : Program} {w : World} {K : PySem.W.Frag} {elts : List Expr} {kk : Nat} {tpos : Pos} {t u : Bool} {a b z TI TO i1 i2 : Addr} (D : ZipApart z TI TO i1 i2 a b) :
    Turn P w K (.Tuple elts kk tpos) (ItZ K t u a b) [z, TI, TO, i1, i2] z (fun i h => IsZip h z TI TO .none ∧ IsPair h TI (.ref i1) (.ref i2) ∧ (∃ x y, IsPair h TO x y) ∧ ItOf t h i1 a i ∧ ItOf u h i2 b i) where
  mem := List.mem_cons_self
  obj := fun i h ⟨hz, hTI, ⟨x, y, hTO⟩, h1, h2⟩ c hc => by
    rcases five hc with q | q | q | q | q
    · rw [q]; exact ⟨_, hz, fun v z => nomatch z⟩
    · rw [q]; exact ⟨_, hTI, fun v z => nomatch z⟩
    · rw [q]; exact ⟨_, hTO, fun v z => nomatch z⟩
    · rw [q]; exact h1.there
    · rw [q]; exact h2.there
  keep := fun i h h' ⟨hz, hTI, ⟨x, y, hTO⟩, h1, h2⟩ k =>
    ⟨k z (by simp) _ hz, k TI (by simp) _ hTI, ⟨x, y, k TO (by simp) _ hTO⟩, h1.to fun o q => k i1 (by simp) o q, h2.to fun o q => k i2 (by simp) o q⟩
  item := by
    intro X hP hw hK hc i pins s σ H E I hf ⟨hz, hTI, ⟨x0, y0, hTO⟩, h1, h2⟩ ⟨xs, ys, x, y, hqx, hqy, hx, hy⟩
    subst hP hw hK
    obtain ⟨its, rv, p⟩ := sq_at I hqx
    obtain ⟨its2, rv2, p2⟩ := sq_at I hqy
    obtain ⟨v1, hu, ru⟩ := rv.get hx
    obtain ⟨v2, hu2, ru2⟩ := rv2.get hy
    have zlt : z < s.heap.objs.size := Heap.lt_size hz
    refine py_item D hz hTI hTO h1 h2 p p2 (x := v1) (y := v2) (by simpa using hu) (by simpa using hu2) fun h' z' TO' h1' h2' hT hsz hk => ?_
    refine ⟨_, rfl, wpAny_letOwnedTupleGo_zip (s := { s with heap := h' }) z' fun h'' z'' sb => ?_⟩
    have hT2 : h''.get? s.heap.objs.size = some { cls := .type "tuple", data := .seq #[v1, v2] } := (sb.2 _ (Nat.ne_of_gt zlt)).trans hT
    have two : ([x, y] : List V).length ≤ sizeLine := by show 2 ≤ sizeLine; decide
    have new : ObjOk X.prog X.w (upd H s.heap.objs.size (.tup [x, y])) h'' s.heap.objs.size (.tup [x, y]) := ⟨two, [v1, v2], .cons ru (.cons ru2 .nil), ⟨_, hT2, rfl, _, rfl⟩⟩
    have kept : ∀ c o, c ∉ [z, TI, TO, i1, i2] → s.heap.get? c = some o → h''.get? c = some o := fun c o hb q =>
      (sb.2 c fun q' => hb (by simp [q'])).trans (hk c o (fun q' => hb (by simp [q'])) (fun q' => hb (by simp [q'])) (fun q' => hb (by simp [q'])) (fun q' => hb (by simp [q'])) q)
    have I1 : Inv X pins σ (upd H s.heap.objs.size (.tup [x, y])) { s with heap := h'' } := I.turnedNew (t' := s.toks) (ch := [z, TI, TO, i1, i2]) kept hf (Nat.le_refl _) new
    refine ⟨.ref s.heap.objs.size, _, I1, rfl, ⟨_, x, y, rfl, I.hok.fresh (Nat.le_refl _), rfl, fun l hl => by rw [sq_inj I hl hqx]; exact hx, fun l hl => by rw [sq_inj I hl hqy]; exact hy⟩, ⟨z'', ?_, ⟨v1, v2, ?_⟩, ?_, ?_⟩, fun c hcm => ?_⟩
    · exact (sb.2 _ D.TIz).trans (hk _ _ D.TIz D.TITO D.TIi1 D.TIi2 hTI)
    · exact (sb.2 _ D.TOz).trans TO'
    · exact h1'.to fun o q => (sb.2 _ D.i1z).trans q
    · exact h2'.to fun o q => (sb.2 _ D.i2z).trans q
    · have hlt : c < s.heap.objs.size := by
        rcases five hcm with q | q | q | q | q
        · rw [q]; exact zlt
        · rw [q]; exact Heap.lt_size hTI
        · rw [q]; exact Heap.lt_size hTO
        · rw [q]; obtain ⟨_, e1, _⟩ := h1.there; exact Heap.lt_size e1
        · rw [q]; obtain ⟨_, e2, _⟩ := h2.there; exact Heap.lt_size e2
      rw [upd_ne (Nat.ne_of_lt hlt)]
      exact (hf c hcm).1
  done := by
    intro X hP hw hK hc i pins s σ H E I hf ⟨hz, hTI, ⟨x0, y0, hTO⟩, h1, h2⟩ ⟨xs, ys, hqx, hqy, hend⟩
    subst hP hw hK
    obtain ⟨its, rv, p⟩ := sq_at I hqx
    obtain ⟨its2, rv2, p2⟩ := sq_at I hqy
    have l1 := rv.length
    have l2 := rv2.length
    have he : its.toArray[i]? = none ∨ its2.toArray[i]? = none := hend.elim (fun q => .inl (by simp; omega)) fun q => .inr (by simp; omega)
    exact py_end (I.ok.hd hc) D hz hTI hTO h1 h2 p p2 he fun h' hk => ⟨rfl, I.turnedL (t' := s.toks) (ch := [z, TI, TO, i1, i2]) (fun c o hb q =>
      hk c o (fun q' => hb (by simp [q'])) (fun q' => hb (by simp [q'])) (fun q' => hb (by simp [q'])) (fun q' => hb (by simp [q'])) q) hf⟩
  self := fun A i s Q E st h => wpAny_pyIter_zip st.1 h
def iZ (K : PySem.W.Frag) (ta : TA) : TI := fun σ H R => ta σ H fun vs H1 => ∃ a b xs ys t u, vs = [.ref a, .ref b] ∧ SqK t K H1 a xs ∧ SqK u K H1 b ys ∧ R (ItZ K t u a b) H1
theorem pi_z {X : Cx} {e e2 : Expr} {ta : TA} {p pos tpos : Pos} {elts : List Expr} {kk : Nat} (hg : Gl X "zip") (hm : X.mg "zip" = none) (ha : PA X [e, e2] ta)
    (hs : starEach [e, e2] X.env = (false, eval e X.env) :: starEach [e2] X.env := by rfl) (hpl : (backTo pos (starEach [e2] X.env)).any (·.1) = false := by rfl) :
    PI X (.Tuple elts kk tpos) (.Call (.Name "zip" p) [e, e2] [] pos) (iZ X.K ta) := by
  refine ⟨fun pins s σ H R I h => Call_ (ld_blt I hg hm PyProof.Rows.boot_zip (PyProof.Rows.callWith_type1 (thn (ha.run pos pins s σ H _ I h) fun us s1 ⟨vs, H1, I1, r1, q1⟩ => ?_) hs hpl))⟩
  obtain ⟨a, b, xs, ys, t, u, ex, hqx, hqy, q⟩ := q1
  subst ex
  cases r1 with
  | cons r rr =>
    cases rr with
    | cons r' rr =>
      cases rr
      cases r
      cases r'
      have fresh5 : ∀ c, c ∈ [s1.heap.objs.size + 4, s1.heap.objs.size + 2, s1.heap.objs.size + 3, s1.heap.objs.size, s1.heap.objs.size + 1] → FpOk X pins H1 c := fun c hcm => by
        have hle : s1.heap.objs.size ≤ c := by
          rcases five hcm with z | z | z | z | z
          · rw [z]; exact Nat.le_add_right _ _
          · rw [z]; exact Nat.le_add_right _ _
          · rw [z]; exact Nat.le_add_right _ _
          · rw [z]; exact Nat.le_refl _
          · rw [z]; exact Nat.le_add_right _ _
        exact I1.fpOk hle (I1.hok.fresh hle)
      obtain ⟨its, rv, p1⟩ := sq_at I1 hqx
      obtain ⟨its2, rv2, p2⟩ := sq_at I1 hqy
      refine call_of p1 p2 fun h' hz hTI hTO h1 h2 hsz hk => wpAny_pyIter_zip hz ?_
      have I2 : Inv X pins σ H1 { s1 with heap := h' } := I1.kept (t' := s1.toks) hk
      exact ⟨s1.heap.objs.size + 4, [s1.heap.objs.size + 4, s1.heap.objs.size + 2, s1.heap.objs.size + 3, s1.heap.objs.size, s1.heap.objs.size + 1], _, _, H1, rfl, I2, turn_z (PySem.W.ktu_apart s1.heap.objs.size a b p1.lt p2.lt), ⟨hz, hTI, ⟨_, _, hTO⟩, h1, h2⟩, fresh5, q⟩
end SMZ

/-! SMLoop: targets, loops, comprehensions. -/
namespace SM
open PySem (Str Expr Stmt Pos Operator CmpOp)
open L2 hiding St tB tAnd tOr tNot tYes iRng1 iRng2
def Tg.slots : Tg → List Nat
  | .nm i => [i]
  | .tp is => is
def setS : List Nat → List V → L2.St → L2.St
  | i :: is, v :: vs, σ => setS is vs (σ.set i (some v))
  | _, _, σ => σ
section
variable {K : Frag} {mg : Mg} {w w0 w1 w2 : Rw} {h h' : Heap} {a : Addr} {M M0 M1 : Addr → Prop} {r : Env} {σ : L2.St}
theorem wipe_get (σ : L2.St) (i : Nat) : ∀ vs : List Nat, (wipe σ vs)[i]? = if i ∈ vs then σ[i]?.map (fun _ => none) else σ[i]?
  | [] => by simp [wipe]
  | v :: vs => by
    show ((wipe σ vs).set v none)[i]? = _
    rw [List.getElem?_set]
    have ih := wipe_get σ i vs
    have hl : (wipe σ vs).length = σ.length := wipe_length σ vs
    by_cases hv : v = i
    · subst hv
      rw [if_pos rfl, if_pos List.mem_cons_self, hl]
      by_cases hlt : v < σ.length
      · rw [if_pos hlt, List.getElem?_eq_getElem hlt]
        rfl
      · rw [if_neg hlt, List.getElem?_eq_none (Nat.not_lt.mp hlt)]
        rfl
    · rw [if_neg hv, ih]
      by_cases hm : i ∈ vs
      · rw [if_pos hm, if_pos (List.mem_cons_of_mem _ hm)]
      · rw [if_neg hm, if_neg]
        intro z
        rcases List.mem_cons.mp z with z | z
        · exact hv z.symm
        · exact hm z
theorem wipe_set {i : Nat} {x : Option V} {vs : List Nat} (hi : i ∈ vs) : wipe (σ.set i x) vs = wipe σ vs := by
  apply List.ext_getElem?
  intro j
  rw [wipe_get, wipe_get]
  by_cases hj : j ∈ vs
  · rw [if_pos hj, if_pos hj, List.getElem?_set]
    by_cases e : i = j
    · subst e
      rw [if_pos rfl]
      by_cases hlt : i < σ.length
      · rw [if_pos hlt, List.getElem?_eq_getElem hlt]
        rfl
      · rw [if_neg hlt, List.getElem?_eq_none (Nat.not_lt.mp hlt)]
    · rw [if_neg e]
  · rw [if_neg hj, if_neg hj, List.getElem?_set_ne]
    intro e
    exact hj (e ▸ hi)
theorem wipe_wipe (σ : L2.St) (vs : List Nat) : wipe (wipe σ vs) vs = wipe σ vs := by
  apply List.ext_getElem?
  intro j
  rw [wipe_get, wipe_get]
  by_cases hj : j ∈ vs
  · rw [if_pos hj, if_pos hj]
    cases σ[j]? <;> rfl
  · rw [if_neg hj, if_neg hj]
theorem wipe_setS {vs : List Nat} : ∀ (is : List Nat) (us : List V) (σ : L2.St), (∀ i, i ∈ is → i ∈ vs) → wipe (setS is us σ) vs = wipe σ vs
  | [], _, _, _ => by
    unfold setS
    rfl
  | i :: is, [], _, _ => rfl
  | i :: is, u :: us, σ, hm => by
    show wipe (setS is us (σ.set i (some u))) vs = _
    rw [wipe_setS is us _ fun j hj => hm j (List.mem_cons_of_mem _ hj), wipe_set (hm i List.mem_cons_self)]
theorem wipeE_get (r : Env) (i : Nat) : ∀ vs : List Nat, (wipeE r vs)[i]? = if i ∈ vs then r[i]?.map (fun _ => none) else r[i]?
  | [] => by simp [wipeE]
  | v :: vs => by
    show ((wipeE r vs).set v none)[i]? = _
    rw [List.getElem?_set]
    have ih := wipeE_get r i vs
    have hl : ∀ vs : List Nat, (wipeE r vs).length = r.length := by
      intro vs
      induction vs with
      | nil => rfl
      | cons v vs ih => show ((wipeE r vs).set v none).length = _; rw [List.length_set, ih]
    by_cases hv : v = i
    · subst hv
      rw [if_pos rfl, if_pos List.mem_cons_self, hl]
      by_cases hlt : v < r.length
      · rw [if_pos hlt, List.getElem?_eq_getElem hlt]
        rfl
      · rw [if_neg hlt, List.getElem?_eq_none (Nat.not_lt.mp hlt)]
        rfl
    · rw [if_neg hv, ih]
      by_cases hm : i ∈ vs
      · rw [if_pos hm, if_pos (List.mem_cons_of_mem _ hm)]
      · rw [if_neg hm, if_neg]
        intro z
        rcases List.mem_cons.mp z with z | z
        · exact hv z.symm
        · exact hm z
theorem wipeE_len (r : Env) : ∀ vs : List Nat, (wipeE r vs).length = r.length
  | [] => rfl
  | v :: vs => by
    show ((wipeE r vs).set v none).length = _
    rw [List.length_set, wipeE_len r vs]
theorem Rel.wipe (R : Rel K mg w r h σ) (vs : List Nat) : Rel K mg w (wipeE r vs) h (wipe σ vs) := by
  have back : ∀ {i : Nat} {x : RV}, (wipeE r vs)[i]? = some (some x) → r[i]? = some (some x) ∧ i ∉ vs := by
    intro i x e
    rw [wipeE_get] at e
    by_cases hi : i ∈ vs
    · rw [if_pos hi] at e
      cases q : r[i]? with
      | none => rw [q] at e; cases e
      | some o => rw [q] at e; cases e
    · rw [if_neg hi] at e
      exact ⟨e, hi⟩
  have backS : ∀ {i : Nat} {x : V}, i ∉ vs → (L2.wipe σ vs)[i]? = σ[i]? := by
    intro i x hi
    rw [wipe_get, if_neg hi]
  have ow : ∀ a, owns (wipeE r vs) (L2.wipe σ vs) a → owns r σ a := by
    rintro a ⟨i, xs, e1, e2⟩
    obtain ⟨f1, hi⟩ := back e1
    rw [wipe_get, if_neg hi] at e2
    exact ⟨i, xs, f1, e2⟩
  refine ⟨R.hp, by rw [wipe_length, wipeE_len]; exact R.len, fun i x e => ?_, fun i j xs ys a e1 e2 e3 e4 => ?_⟩
  · obtain ⟨f1, hi⟩ := back e
    obtain ⟨v, f2, s⟩ := R.sl i x f1
    refine ⟨v, by rw [wipe_get, if_neg hi]; exact f2, ?_⟩
    cases x with
    | v x => exact s
    | own x => exact s
    | view x =>
      obtain ⟨a, ys, e, ⟨s1, s2⟩, s3⟩ := s
      exact ⟨a, ys, e, ⟨s1, fun o => s2 (ow a o)⟩, s3⟩
  · obtain ⟨f1, h1⟩ := back e1
    obtain ⟨f2, h2⟩ := back e2
    rw [wipe_get, if_neg h1] at e3
    rw [wipe_get, if_neg h2] at e4
    exact R.own1 i j xs ys a f1 f2 e3 e4
/-- any state is one behind itself -/
theorem Rel.self (R : Rel K mg w r h σ) : RelS K mg w (owns r σ) w r h σ := ⟨R, LeS.refl, fun _ o => .inl o⟩
theorem RelS.setAll : ∀ {is : List Nat} {xs : List Val} {vs : List V} {r : Env} {σ : L2.St}, RelS K mg w0 M0 w r h σ → RVals K w xs vs → RelS K mg w0 M0 w (SM.setAll is xs r) h (setS is vs σ)
  | [], xs, vs, r, σ, R, q => by
    unfold SM.setAll setS
    exact R
  | i :: is, [], vs, r, σ, R, q => by
    have e : vs = [] := q
    subst e
    exact R
  | i :: is, x :: xs, vs, r, σ, R, ⟨v, us, e, q1, q2⟩ => by
    subst e
    show RelS K mg w0 M0 w (SM.setAll is xs (r.set i (some (.v x)))) h (setS is us (σ.set i (some v)))
    exact RelS.setAll (R.set_v (i := i) q1) q2
theorem owns_P (R : Rel K mg w r h σ) : ∀ b, owns r σ b → w.P b := by
  rintro b ⟨i, xs, e1, e2⟩
  obtain ⟨v, e3, a, ys, e4, s1, s2, s3, s4⟩ := R.sl i _ e1
  rw [e2] at e3
  cases e3
  cases e4
  exact s3
theorem owns_some (R : Rel K mg w r h σ) : ∀ b, owns r σ b → ∃ o, w.H b = some o := fun b o => R.hp.ph b (owns_P R b o)
/-- a target takes a value -/
def tG (K : Frag) (mg : Mg) (g : Tg) : TG := fun v σ H Q => ∃ w0 M0 w r h x r1, w.H = H ∧ RelS K mg w0 M0 w r h σ ∧ RVal K w x v ∧ g.put x r = some r1 ∧
  ∀ σ1, RelS K mg w0 M0 w r1 h σ1 → (∀ vs, (∀ i, i ∈ g.slots → i ∈ vs) → wipe σ1 vs = wipe σ vs) → Q σ1 H
end
section
variable {X : Cx} {W : WX} {w0 : Rw} {M0 : Addr → Prop} {pos pos' : Pos} {a b c e tg : Expr} {fa fb fc : E} {ga gb : T} {es : List Expr} {fs : A} {st : Stmt} {sts : List Stmt} {f g : S}
abbrev PGt (X : Cx) (tg : Expr) (g : Tg) : Prop := PG X tg (tG X.K X.mg g)
theorem PG.weak {t t' : TG} (p : PG X tg t) (c : ∀ v σ H Q, t' v σ H Q → t v σ H Q) : PG X tg t' := ⟨fun pins s σ H v u Q I r q => p.run pins s σ H v u Q I r (c v σ H Q q)⟩
theorem PGs.weak {t t' : TGs} (p : PGs X es t) (c : ∀ v σ H Q, t' v σ H Q → t v σ H Q) : PGs X es t' := ⟨fun pins s σ H v u Q I r q => p.run pins s σ H v u Q I r (c v σ H Q q)⟩
theorem g_nm (i : Nat) {x : Str} (hN : X.N.Nodup) (hi : X.N[i]? = some x := by rfl) (hx : Loc X.env.scope x := by first | exact Or.inl rfl | exact Or.inr rfl) (hf : X.fn x = true ∨ X.env.scope.names.lookup x = some .local := by first | exact .inl rfl | exact .inr rfl | assumption) : PGt X (.Name x pos) (.nm i) :=
  PG.weak (pg_name hN hi hx hf) fun v σ H Q ⟨w0, M0, w, r, h, x, r1, e, R, q, p, k⟩ => by
    subst e
    have p : some (r.set i (some (.v x))) = some r1 := p
    cases p
    exact k _ (R.set_v (i := i) q) fun vs hv => wipe_set (hv i List.mem_cons_self)
def tGs (is : List Nat) : TGs := fun vs σ H Q => vs.length = is.length ∧ Q (setS is vs σ) H
theorem gs_nil : PGs X [] (tGs []) := PGs.weak pgs_nil fun vs σ H Q ⟨e, q⟩ => by
  have e2 : vs = [] := List.eq_nil_of_length_eq_zero e
  subst e2
  exact ⟨rfl, q⟩
theorem gs_cons (i : Nat) {is : List Nat} {x : Str} (hN : X.N.Nodup) (hr : PGs X es (tGs is)) (hi : X.N[i]? = some x := by rfl) (hx : Loc X.env.scope x := by first | exact Or.inl rfl | exact Or.inr rfl) (hf : X.fn x = true ∨ X.env.scope.names.lookup x = some .local := by first | exact .inl rfl | exact .inr rfl | assumption)
    (hs : (PySem.assignEach (.Name x pos :: es) X.env).map (·.2) = PySem.assign (.Name x pos) X.env :: (PySem.assignEach es X.env).map (·.2) := by rfl) : PGs X (.Name x pos :: es) (tGs (i :: is)) :=
  PGs.weak (pgs_cons (pg_name hN hi hx hf) hr hs) fun vs σ H Q ⟨e, q⟩ => by
    cases vs with
    | nil => cases e
    | cons v vs => exact ⟨v, vs, rfl, Nat.succ.inj e, q⟩
theorem g_tp {k : Nat} {is : List Nat} (hc : X.calm = true) (hg : PGs X es (tGs is)) (hn : (PySem.assignEach es X.env).length = is.length := by rfl) (hst : (PySem.assignEach es X.env).findIdx? (·.1) = none := by rfl) : PGt X (.Tuple es k pos) (.tp is) :=
  PG.weak (pg_tup hc hg hn hst) fun v σ H Q ⟨w0, M0, w, r, h, x, r1, e, R, q, p, k⟩ => by
    subst e
    cases x with
    | tup xs =>
      have p : (if xs.length = is.length then some (SM.setAll is xs r) else none) = some r1 := p
      split at p
      · rename_i hl
        cases p
        obtain ⟨a, ys, e1, s, q1⟩ := q
        refine ⟨a, ys, e1, s.sqt, by rw [← q1.length]; exact hl, by rw [← q1.length]; exact hl, ?_⟩
        exact k _ (R.setAll q1) fun vs hv => wipe_setS is ys σ hv
      · cases p
    | _ => cases p
/-- a, b, .. = e, e a tuple -/
theorem b_unp {k : Nat} {is : List Nat} (hc : X.calm = true) (ha : PEs X W a fa) (hg : PGs X es (tGs is)) (hn : (PySem.assignEach es X.env).length = is.length := by rfl) (hst : (PySem.assignEach es X.env).findIdx? (·.1) = none := by rfl)
    (hs : PySem.swapsWithSole [.Tuple es k pos'] a pos.line X.env = pure false := by rfl) (hw : PySem.swappedStores [.Tuple es k pos'] a X.env = pure none := by rfl)
    (h1 : (PySem.assignEach [.Tuple es k pos'] X.env).map (·.2) = [PySem.assign (.Tuple es k pos') X.env] := by rfl) : PSs' X W w0 M0 (.Assign [.Tuple es k pos'] a pos) (sUnp is fa) :=
  PS.weak (ps_asg ha (pg_tup hc hg hn hst) hs hw h1) fun D σ H ⟨w, r, h, e, R, k⟩ => by
    subst e
    refine ⟨w, r, h, rfl, R.rel, SK.cut R (fun x h1 w1 v1 l1 R1 q1 k1 => ?_) k⟩
    split at k1
    · rename_i xs
      split at k1
      · rename_i hl
        obtain ⟨a, ys, e1, s, q2⟩ := q1
        exact ⟨a, ys, e1, s.sqt, by rw [← RVals.length q2]; exact hl, by rw [← RVals.length q2]; exact hl, k1 w1 _ ((R.le' l1 R1).setAll q2)⟩
      · exact k1.elim
    · exact k1.elim
/-- a, b = x, y, two local names -/
theorem b_par2 (i j : Nat) {x y : Str} {px py pt : Pos} {kt k2 : Nat} {pt2 : Pos} (hc : X.calm = true) (hN : X.N.Nodup) (ha : PEs X W a fa) (hb : PEs X W b fb) (hi : X.N[i]? = some x := by rfl) (hj : X.N[j]? = some y := by rfl) (hij : i ≠ j := by decide)
    (hx : X.env.scope.names.lookup x = some .local := by rfl) (hy : X.env.scope.names.lookup y = some .local := by rfl)
    (hw : PySem.swappedStores [.Tuple [.Name x px, .Name y py] kt pt] (.Tuple [a, b] k2 pt2) X.env = pure (some [x, y]) := by rfl)
    (hs : PySem.swapsWithSole [.Tuple [.Name x px, .Name y py] kt pt] (.Tuple [a, b] k2 pt2) pos.line X.env = pure false := by rfl)
    (h1 : PySem.starEach [a, b] X.env = (false, PySem.eval a X.env) :: PySem.starEach [b] X.env := by rfl) (h2 : PySem.starEach [b] X.env = (false, PySem.eval b X.env) :: PySem.starEach [] X.env := by rfl) :
    PSs' X W w0 M0 (.Assign [.Tuple [.Name x px, .Name y py] kt pt] (.Tuple [a, b] k2 pt2) pos) (sPar2 i j fa fb) :=
  PS.weak (ps_par hc hN hi hj hij hx hy (pa_cons ha (pa_cons hb pa_nil h2) h1) hw hs) fun D σ H ⟨w, r, h, e, R, k⟩ => by
    subst e
    refine ⟨w, r, h, rfl, R.rel, SK.cut R (fun x h1 w1 v1 l1 R1 q1 k1 => ?_) k⟩
    split at k1
    · rename_i y hy
      obtain ⟨w2, eH, l2, R2, q2⟩ := q1.keep R1 l1 hy
      refine ⟨w2, r, h1, eH, R.rel.le l2 R2, SK.cut (R.le' l2 R2) (fun z h3 w3 v3 l3 R3 q3 k3 => ?_) k1⟩
      split at k3
      · rename_i u hu
        obtain ⟨w4, eH4, l4, R4, q4⟩ := q3.keep R3 l3 hu
        refine ⟨v1, v3, rfl, ?_⟩
        have := k3 w4 _ (((R.le' (l2.trans l4) R4).set_v (i := i) (q2.le R2 l4)).set_v (i := j) q4)
        rw [eH4] at this
        exact this
      · exact k3.elim
    · exact k1.elim
theorem b_while (n : Nat) (hp : PySem.PassesOwn (PySem.model X.prog X.w) X.A X.env X.xe) (hc : PTs' X W c ga) (hb : PBs X W w0 M0 sts f) : PSs' X W w0 M0 (.While c sts [] pos) (sWhile ga f n) :=
  PS.weak (ps_while hp hc hb) fun D σ H ⟨w, r, h, e, R, k⟩ => by
    subst e
    refine ⟨fun m σ H => ∃ w r h, w.H = H ∧ RelS X.K X.mg w0 M0 w r h σ ∧ SK X.K X.mg W w0 M0 D (sWhile ga f m r h), ⟨n, w, r, h, rfl, R, k⟩, ?_⟩
    rintro m σ H ⟨w, r, h, rfl, R, k⟩
    cases m with
    | zero => exact k.elim
    | succ m =>
      refine ⟨w, r, h, rfl, R.rel, SK.cutT R (fun b h1 w1 l1 R1 k1 => ?_) k⟩
      cases b with
      | false =>
        rw [if_neg Bool.false_ne_true] at k1 ⊢
        exact k1 w1 σ (R.le' l1 R1)
      | true =>
        rw [if_pos rfl] at k1 ⊢
        refine ⟨fun σ H => ∃ w r h, w.H = H ∧ RelS X.K X.mg w0 M0 w r h σ ∧ SK X.K X.mg W w0 M0 D (sWhile ga f m r h), fun σ' H' z => ⟨m, Nat.lt_succ_self _, z⟩, w1, r, h1, rfl, R.le' l1 R1, ?_⟩
        cases hf : f r h1 with
        | nx r2 h2 =>
          rw [hf] at k1
          exact fun w2 σ2 R2 => ⟨w2, r2, h2, rfl, R2, k1⟩
        | ct r2 h2 =>
          rw [hf] at k1
          exact fun w2 σ2 R2 => ⟨w2, r2, h2, rfl, R2, k1⟩
        | bk r2 h2 =>
          rw [hf] at k1
          exact k1
        | rt x h2 =>
          rw [hf] at k1
          exact k1
        | ex e r2 h2 =>
          rw [hf] at k1
          exact k1
        | no =>
          rw [hf] at k1
          exact k1
end

/-! ### what is walked -/
section
variable {K : Frag} {mg : Mg}
/-- J gives the items xs, wherever the lists at ow may change and the objects at dep do not -/
def Wk (K : Frag) (mg : Mg) (ow : Addr → Prop) (w : Rw) (h : Heap) (J : It) (xs : List Val) (dep : List Nat) : Prop := ∀ w2 h2, LeS ow w w2 → RHp K mg w2 h2 → Same dep h h2 →
  (∀ i, i < xs.length → J.go i w2.H) ∧ J.stop xs.length w2.H ∧ ∀ i x H', i < xs.length → J.yld i w2.H x H' → ∃ w3 y, w3.H = H' ∧ Le w2 w3 ∧ RHp K mg w3 h2 ∧ xs[i]? = some y ∧ RVal K w3 y x
def IK (K : Frag) (mg : Mg) (W : WX) (ow : Addr → Prop) (w : Rw) (σ : L2.St) (R : It → Hp → Prop) : EO (List Val × List Nat) → Prop
  | .ok p h => ∀ w' J, Le w w' → RHp K mg w' h → Wk K mg ow w' h J p.1 p.2 → R J w'.H
  | .ex e h => ∀ w' cls d, Le w w' → RHp K mg w' h → RExn K mg w' e cls d → W cls d σ w'.H
  | .no => False
def tI (K : Frag) (mg : Mg) (W : WX) (f : I) : TI := fun σ H R => ∃ w r h, w.H = H ∧ Rel K mg w r h σ ∧ IK K mg W (owns r σ) w σ R (f r h)
/-- .. within an expression -/
def tIe (K : Frag) (mg : Mg) (W : WX) (f : I) : TI := fun σ H R => ∃ w r h, w.H = H ∧ Rel K mg w r h σ ∧ IK K mg W (fun _ => False) w σ R (f r h)
theorem IK.le {W : WX} {w w1 : Rw} {ow : Addr → Prop} {σ : L2.St} {R : It → Hp → Prop} (l : Le w w1) : ∀ {o : EO (List Val × List Nat)}, IK K mg W ow w σ R o → IK K mg W ow w1 σ R o
  | .ok x h, k => fun w' v l' hp q => k w' v (l.trans l') hp q
  | .ex e h, k => fun w' cls d l' hp q => k w' cls d (l.trans l') hp q
  | .no, k => k
theorem EK.cutI {W : WX} {w : Rw} {ow : Addr → Prop} {σ : L2.St} {R : It → Hp → Prop} {Q' : VK} {f : RV → Heap → EO (List Val × List Nat)} (c : ∀ x h1 w1 v1, Le w w1 → RHp K mg w1 h1 → RRes K w w1 x v1 → IK K mg W ow w σ R (f x h1) → Q' v1 w1.H) :
    ∀ {o : EO RV}, IK K mg W ow w σ R (o.bind f) → EK K mg W w σ Q' o
  | .ok x h, k => fun w' v l hp q => c x h w' v l hp q k
  | .ex e h, k => k
  | .no, k => k
theorem LeS.mono {M M1 : Addr → Prop} {w w1 : Rw} (l : LeS M w w1) (hM : ∀ b, M b → M1 b) : LeS M1 w w1 := ⟨l.n, l.io, fun b o e u z => l.keep b o e u fun q => z (hM b q), l.there, l.P, fun b o e z => l.P2 b o e fun q => z (hM b q), l.new⟩
theorem IK.toE {W : WX} {w : Rw} {ow : Addr → Prop} {σ : L2.St} {R : It → Hp → Prop} : ∀ {o : EO (List Val × List Nat)}, IK K mg W (fun _ => False) w σ R o → IK K mg W ow w σ R o
  | .ok x h, k => fun w' J l hp q => k w' J l hp fun w2 h2 l2 => q w2 h2 (l2.mono fun _ z => z.elim)
  | .ex e h, k => k
  | .no, k => k
/-- a sequence stays, wherever the lists at ow may change and the objects at dep do not -/
def SeqSt (K : Frag) (mg : Mg) (ow : Addr → Prop) (w : Rw) (h : Heap) (dep : List Nat) (t : Bool) (a : Addr) (xs : List Val) : Prop :=
  ∀ w2 h2, LeS ow w w2 → RHp K mg w2 h2 → Same dep h h2 → ∃ ys, SMZ.SqK t K w2.H a ys ∧ RVals K w2 xs ys
theorem SeqSt.le {ow : Addr → Prop} {w w1 : Rw} {h h1 : Heap} {dep : List Nat} {t : Bool} {a : Addr} {xs : List Val} (s : SeqSt K mg ow w h dep t a xs) (l : Le w w1) (e : Same dep h h1) : SeqSt K mg ow w1 h1 dep t a xs :=
  fun w2 h2 l2 R2 e2 => s w2 h2 ((l.s (M := ow)).trans l2 fun b z => .inl z) R2 fun n hn => (e2 n hn).trans (e n hn)
theorem seqSt_e {ow : Addr → Prop} {w0 w : Rw} {h : Heap} {x : RV} {v : V} {t : Bool} {xs : List Val} {dep : List Nat} (R : RHp K mg w h) (hP : ∀ b, ow b → w.P b) (hf : ∀ b, ow b → ∃ o, w0.H b = some o) (q : RRes K w0 w x v) (e : seqV h x = some (t, xs, dep)) :
    ∃ a, v = .ref a ∧ SeqSt K mg ow w h dep t a xs := by
  cases x with
  | view vs => cases e
  | own vs =>
    have e : some (false, vs, []) = some (t, xs, dep) := e
    cases e
    obtain ⟨a, ys, e1, e0, s, q, hp, u⟩ := q
    refine ⟨a, e1, fun w2 h2 l R2 _ => ⟨ys, .of (l.keep a _ s u fun z => ?_), q.leS R hP l⟩⟩
    obtain ⟨o, eo⟩ := hf a z
    rw [e0] at eo
    cases eo
  | v x =>
    cases x with
    | tup vs =>
      have e : some (true, vs, []) = some (t, xs, dep) := e
      cases e
      obtain ⟨a, ys, e1, s, q⟩ := q
      exact ⟨a, e1, fun w2 h2 l R2 _ => ⟨ys, (s.leS R hP l).sqt, q.leS R hP l⟩⟩
    | ro vs =>
      have e : some (false, vs, []) = some (t, xs, dep) := e
      cases e
      obtain ⟨a, ys, e1, s, q⟩ := q
      exact ⟨a, e1, fun w2 h2 l R2 _ => ⟨ys, (s.leS R hP l).sql, q.leS R hP l⟩⟩
    | scr vs =>
      have e : some (false, vs, []) = some (t, xs, dep) := e
      cases e
      obtain ⟨a, ys, e1, s, q⟩ := q
      exact ⟨a, e1, fun w2 h2 l R2 _ => ⟨ys, (s.leS R hP l).sql, q.leS R hP l⟩⟩
    | obj n =>
      have e : (match h[n]? with
        | some (.lst xs) => some (false, xs, [n])
        | _ => none) = some (t, xs, dep) := e
      obtain ⟨hk, ev⟩ := q
      split at e
      · rename_i vs hn
        cases e
        refine ⟨_, ev, fun w2 h2 l R2 sm => ?_⟩
        obtain ⟨ys, e1, q1⟩ := R2.obj n _ ((sm n List.mem_cons_self).trans hn)
        rw [l.io n hk] at e1
        exact ⟨ys, .of e1, q1⟩
      · cases e
    | _ => cases e
theorem seqSt_E {w0 w : Rw} {h : Heap} {x : RV} {v : V} {t : Bool} {xs : List Val} {dep : List Nat} (R : RHp K mg w h) (q : RRes K w0 w x v) (e : seqE h x = some (t, xs, dep)) :
    ∃ a, v = .ref a ∧ SeqSt K mg (fun _ => False) w h dep t a xs := by
  cases x with
  | view vs =>
    have e : some (false, vs, []) = some (t, xs, dep) := e
    cases e
    obtain ⟨a, ys, e1, s, q⟩ := q
    exact ⟨a, e1, fun w2 h2 l R2 _ => ⟨ys, .of (l.keep a _ s.1 s.2 id), q.leS R (fun _ z => z.elim) l⟩⟩
  | own vs => exact seqSt_e R (fun _ z => z.elim) (fun _ z => z.elim) q e
  | v x => exact seqSt_e R (fun _ z => z.elim) (fun _ z => z.elim) q e
end
section
variable {X : Cx} {tg : Expr}
/-- a list or a tuple that is walked -/
def iAny (K : Frag) (tl : TE) : TI := fun σ H R => tl σ H fun x H1 => ∃ a t, x = .ref a ∧ (∃ xs, SMZ.SqK t K H1 a xs) ∧ R (if t then Itt K a else Itl K a) H1
open PySem in
theorem pi_any {l : Expr} {tl : TE} (hl : PE X l tl) : PI X tg l (iAny X.K tl) := by
  refine ⟨fun pins s σ H R Iv hw => thn (hl.run pins s σ H _ Iv hw) fun v s1 ⟨x, H1, I1, r1, a, t, ex, ⟨xs, hq⟩, q⟩ => ?_⟩
  subst ex
  cases r1
  have fresh1 : ∀ b ∈ [s1.heap.objs.size], FpOk X pins H1 b := fun b hb => by
    have eb : b = s1.heap.objs.size := by simpa using hb
    rw [eb]
    exact I1.fpOk (Nat.le_refl _) (I1.hok.fresh (Nat.le_refl _))
  cases t with
  | false =>
    obtain ⟨its, rv, p, hz⟩ := I1.list hq
    exact wpAny_pyIter_list p.isList ⟨s1.heap.objs.size, [s1.heap.objs.size], _, _, H1, rfl, I1.kept (t' := s1.toks) fun b o e => Heap.get?_push_of_some _ e, turn_list a _, ⟨_, Heap.get?_push_size _ rfl, rfl, rfl⟩, fresh1, q⟩
  | true =>
    obtain ⟨its, rv, p, hz⟩ := I1.tuple hq
    exact wpAny_pyIter_tuple p ⟨s1.heap.objs.size, [s1.heap.objs.size], _, _, H1, rfl, I1.kept (t' := s1.toks) fun b o e => Heap.get?_push_of_some _ e, turn_tuple a _, ⟨_, Heap.get?_push_size _ rfl, rfl, rfl⟩, fresh1, q⟩
end
section
variable {K : Frag} {mg : Mg} {w w0 : Rw} {h : Heap} {a b : Addr} {ow : Addr → Prop} {dep d2 : List Nat}
theorem wk_seq {t : Bool} {xs : List Val} (s : SeqSt K mg ow w h dep t a xs) : Wk K mg ow w h (if t then Itt K a else Itl K a) xs dep := fun w2 h2 l R2 sm => by
  obtain ⟨ys, s, q2⟩ := s w2 h2 l R2 sm
  cases t with
  | false =>
    refine ⟨fun i hi => ?_, ⟨ys, s, by rw [q2.length]; exact Nat.le_refl _⟩, fun i x H' hi ⟨e, y⟩ => ?_⟩
    · obtain ⟨v, hv, _⟩ := q2.get (List.getElem?_eq_getElem hi)
      exact ⟨ys, v, s, hv⟩
    · obtain ⟨z, hz, qz⟩ := q2.get' (y ys s)
      exact ⟨w2, z, e.symm, Le.refl w2, R2, hz, qz⟩
  | true =>
    refine ⟨fun i hi => ?_, ⟨ys, s, by rw [q2.length]; exact Nat.le_refl _⟩, fun i x H' hi ⟨e, y⟩ => ?_⟩
    · obtain ⟨v, hv, _⟩ := q2.get (List.getElem?_eq_getElem hi)
      exact ⟨ys, v, s, hv⟩
    · obtain ⟨z, hz, qz⟩ := q2.get' (y ys s)
      exact ⟨w2, z, e.symm, Le.refl w2, R2, hz, qz⟩
theorem pairs_len : ∀ xs ys : List Val, (pairs xs ys).length = min xs.length ys.length
  | [], ys => by simp [pairs]
  | x :: xs, [] => by simp [pairs]
  | x :: xs, y :: ys => by
    show (pairs xs ys).length + 1 = min (xs.length + 1) (ys.length + 1)
    rw [pairs_len xs ys]
    omega
theorem pairs_get : ∀ (xs ys : List Val) (i : Nat) (x y : Val), xs[i]? = some x → ys[i]? = some y → (pairs xs ys)[i]? = some (.tup [x, y])
  | x :: xs, y :: ys, 0, _, _, e1, e2 => by
    have e1 : some x = some _ := e1
    have e2 : some y = some _ := e2
    cases e1
    cases e2
    rfl
  | x :: xs, y :: ys, i + 1, u, v, e1, e2 => pairs_get xs ys i u v e1 e2
  | [], _, _, _, _, e1, _ => by simp at e1
  | _ :: _, [], _, _, _, _, e2 => by simp at e2
theorem wk_zip {t u : Bool} {xs ys : List Val} (s1 : SeqSt K mg ow w h dep t a xs) (s2 : SeqSt K mg ow w h d2 u b ys) : Wk K mg ow w h (SMZ.ItZ K t u a b) (pairs xs ys) (dep ++ d2) := fun w2 h2 l R2 sm => by
  obtain ⟨vs, sv, qv⟩ := s1 w2 h2 l R2 fun n hn => sm n (List.mem_append_left _ hn)
  obtain ⟨us, su, qu⟩ := s2 w2 h2 l R2 fun n hn => sm n (List.mem_append_right _ hn)
  have l1 := qv.length
  have l2 := qu.length
  rw [pairs_len]
  refine ⟨fun i hi => ?_, ⟨vs, us, sv, su, by omega⟩, fun i x H' hi ⟨T, x1, x2, ex, hT, eH, f1, f2⟩ => ?_⟩
  · obtain ⟨v, hv, _⟩ := qv.get (List.getElem?_eq_getElem (show i < xs.length by omega))
    obtain ⟨u, hu, _⟩ := qu.get (List.getElem?_eq_getElem (show i < ys.length by omega))
    exact ⟨vs, us, v, u, sv, su, hv, hu⟩
  · obtain ⟨z1, hz1, qz1⟩ := qv.get' (f1 vs sv)
    obtain ⟨z2, hz2, qz2⟩ := qu.get' (f2 us su)
    subst ex eH
    exact ⟨w2.newT T [x1, x2], _, rfl, Le.newT hT, R2.newT hT, pairs_get xs ys i z1 z2 hz1 hz2, res_newT (xs := [z1, z2]) R2 hT ⟨x1, [x2], rfl, qz1, x2, [], rfl, qz2, rfl⟩⟩
theorem upTo_len : ∀ (n : Nat) (lo : Int), (upTo lo n).length = n
  | 0, _ => rfl
  | n + 1, lo => by
    show (upTo (lo + 1) n).length + 1 = n + 1
    rw [upTo_len n]
theorem upTo_get : ∀ (n : Nat) (lo : Int) (i : Nat), i < n → (upTo lo n)[i]? = some (.int (lo + i))
  | n + 1, lo, 0, _ => by
    show some (Val.int lo) = _
    simp
  | n + 1, lo, i + 1, h => by
    show (upTo (lo + 1) n)[i]? = _
    rw [upTo_get n (lo + 1) i (by omega)]
    congr 2
    push_cast
    omega
theorem wk_range {lo : Int} {n : Nat} : Wk K mg ow w h (Itr lo n) (upTo lo n) [] := fun w2 h2 l R2 _ => by
  rw [upTo_len]
  refine ⟨fun i hi => hi, Nat.le_refl _, fun i x H' hi ⟨e, y⟩ => ?_⟩
  subst y
  exact ⟨w2, _, e.symm, Le.refl w2, R2, upTo_get n lo i hi, rfl⟩
theorem chkS_SK {W : WX} {w0 : Rw} {M0 : Addr → Prop} {D : Ends} {h0 h : Heap} {k : SO} (q : SK K mg W w0 M0 D (chkS dep h0 h k)) : Same dep h0 h ∧ SK K mg W w0 M0 D k := by
  cases dep with
  | nil => exact ⟨fun n hn => (by cases hn), q⟩
  | cons n ns =>
    by_cases c : Same (n :: ns) h0 h
    · refine ⟨c, ?_⟩
      have e : chkS (n :: ns) h0 h k = k := if_pos c
      rw [e] at q
      exact q
    · have e : chkS (n :: ns) h0 h k = .no := if_neg c
      rw [e] at q
      exact q.elim
theorem chkE_EK {W : WX} {w0 : Rw} {σ : L2.St} {Q : VK} {h0 h : Heap} {k : EO RV} (q : EK K mg W w0 σ Q (chkE dep h0 h k)) : Same dep h0 h ∧ EK K mg W w0 σ Q k := by
  cases dep with
  | nil => exact ⟨fun n hn => (by cases hn), q⟩
  | cons n ns =>
    by_cases c : Same (n :: ns) h0 h
    · refine ⟨c, ?_⟩
      have e : chkE (n :: ns) h0 h k = k := if_pos c
      rw [e] at q
      exact q
    · have e : chkE (n :: ns) h0 h k = .no := if_neg c
      rw [e] at q
      exact q.elim
end
section
variable {X : Cx} {W : WX} {w0 : Rw} {M0 : Addr → Prop} {pos pos' p tpos : Pos} {a b c e tg : Expr} {fa fb fc : E} {ga gb : T} {es : List Expr} {fs : A} {st : Stmt} {sts : List Stmt} {f : S} {g : Tg} {it : I} {kk : Nat}
abbrev PIs (X : Cx) (W : WX) (tg iter : Expr) (it : I) : Prop := PI X tg iter (tI X.K X.mg W it)
abbrev PIe (X : Cx) (W : WX) (tg iter : Expr) (it : I) : Prop := PI X tg iter (tIe X.K X.mg W it)
theorem PI.weak {i : Expr} {t t' : TI} (p : PI X tg i t) (c : ∀ σ H R, t' σ H R → t σ H R) : PI X tg i t' := ⟨fun pins s σ H R I q => p.run pins s σ H R I (c σ H R q)⟩
theorem i_e (h : PIs X W tg e it) : PIe X W tg e it := PI.weak h fun σ H R ⟨w, r, h, e, Rr, k⟩ => ⟨w, r, h, e, Rr, k.toE⟩
theorem i_seq (ha : PEs X W a fa) : PIs X W tg a (iSeq fa) := PI.weak (pi_any ha) fun σ H R ⟨w, r, h, e, Rr, k⟩ => by
  subst e
  refine ⟨w, r, h, rfl, Rr, EK.cutI (fun x h1 w1 v1 l1 R1 q1 k1 => ?_) k⟩
  split at k1
  · rename_i t xs dep hs
    obtain ⟨a, ea, st⟩ := seqSt_e R1 (owns_P (Rr.le l1 R1)) (owns_some Rr) q1 hs
    obtain ⟨ys, s, _⟩ := st w1 h1 LeS.refl R1 fun _ _ => rfl
    exact ⟨a, t, ea, ⟨ys, s⟩, k1 w1 _ l1 R1 (wk_seq st)⟩
  · exact k1.elim
theorem i_seqE (ha : PEs X W a fa) : PIe X W tg a (iSeqE fa) := PI.weak (pi_any ha) fun σ H R ⟨w, r, h, e, Rr, k⟩ => by
  subst e
  refine ⟨w, r, h, rfl, Rr, EK.cutI (fun x h1 w1 v1 l1 R1 q1 k1 => ?_) k⟩
  split at k1
  · rename_i t xs dep hs
    obtain ⟨a, ea, st⟩ := seqSt_E R1 q1 hs
    obtain ⟨ys, s, _⟩ := st w1 h1 LeS.refl R1 fun _ _ => rfl
    exact ⟨a, t, ea, ⟨ys, s⟩, k1 w1 _ l1 R1 (wk_seq st)⟩
  · exact k1.elim
theorem i_view (i : Nat) {x : Str} (hN : X.N[i]? = some x := by rfl) (hv : Vis X.env.scope x := by first | exact Or.inl rfl | exact Or.inr (Or.inl rfl) | exact Or.inr (Or.inr rfl)) (hd : (x == ("__debug__" : Str)) = false := by decide)
    (hcd : (x == ("__classdict__" : Str)) = false := by decide) : PIs X W tg (.Name x pos) (iView i) := PI.weak (pi_any (pe_var hN hv hd hcd)) fun σ H R ⟨w, r, h, e, Rr, k⟩ => by
  subst e
  unfold iView at k
  split at k
  · rename_i xs hx
    obtain ⟨v, e1, a, ys, e2, ⟨s1, s2⟩, q⟩ := Rr.sl i _ hx
    have st : SeqSt X.K X.mg (owns r σ) w h [] false a xs := fun w2 h2 l R2 _ => ⟨ys, .of (l.keep a _ s1.1 s1.2 s2), q.leS Rr.hp (owns_P Rr) l⟩
    exact ⟨v, e1, a, false, e2, ⟨ys, s1.sql⟩, k w _ (Le.refl w) Rr.hp (wk_seq st)⟩
  · rename_i x hx
    split at k
    · rename_i t xs dep hs
      obtain ⟨v, e1, q⟩ := Rr.sl i _ hx
      obtain ⟨a, ea, st⟩ := seqSt_e (w0 := w) (x := .v x) Rr.hp (owns_P Rr) (owns_some Rr) q hs
      obtain ⟨ys, s, _⟩ := st w h LeS.refl Rr.hp fun _ _ => rfl
      exact ⟨v, e1, a, t, ea, ⟨ys, s⟩, k w _ (Le.refl w) Rr.hp (wk_seq st)⟩
    · exact k.elim
  · exact k.elim
theorem i_zip (hg : Gl X "zip") (hm : X.mg "zip" = none) (ha : PEs X W a fa) (hb : PEs X W b fb) (hs : PySem.starEach [a, b] X.env = (false, PySem.eval a X.env) :: PySem.starEach [b] X.env := by rfl) (hs2 : PySem.starEach [b] X.env = (false, PySem.eval b X.env) :: PySem.starEach [] X.env := by rfl)
    (hpl : (PySem.backTo pos (PySem.starEach [b] X.env)).any (·.1) = false := by rfl) : PIs X W (.Tuple es kk tpos) (.Call (.Name "zip" p) [a, b] [] pos) (iZip seqV fa fb) :=
  PI.weak (SMZ.pi_z hg hm (pa_cons ha (pa_cons hb pa_nil hs2) hs) hs hpl) fun σ H R ⟨w, r, h, e, Rr, k⟩ => by
    subst e
    refine ⟨w, r, h, rfl, Rr, EK.cutI (fun x h1 w1 v1 l1 R1 q1 k1 => ?_) k⟩
    refine ⟨w1, r, h1, rfl, Rr.le l1 R1, EK.cutI (fun y h2 w2 v2 l2 R2 q2 k2 => ?_) (IK.le l1 k1)⟩
    split at k2
    · rename_i t xs d1 u ys d2 hx hy
      have R2' := (Rr.le l1 R1).le l2 R2
      obtain ⟨a, ea, sa⟩ := seqSt_e R2 (owns_P R2') (owns_some Rr) (q1.le R1 l2) hx
      obtain ⟨b, eb, sb⟩ := seqSt_e R2 (owns_P R2') (owns_some (Rr.le l1 R1)) q2 hy
      obtain ⟨vs, s1, _⟩ := sa w2 h2 LeS.refl R2 fun _ _ => rfl
      obtain ⟨us, s2, _⟩ := sb w2 h2 LeS.refl R2 fun _ _ => rfl
      subst ea eb
      exact ⟨a, b, vs, us, t, u, rfl, s1, s2, k2 w2 _ l2 R2 (wk_zip sa sb)⟩
    · exact k2.elim
theorem i_zipE (hg : Gl X "zip") (hm : X.mg "zip" = none) (ha : PEs X W a fa) (hb : PEs X W b fb) (hs : PySem.starEach [a, b] X.env = (false, PySem.eval a X.env) :: PySem.starEach [b] X.env := by rfl) (hs2 : PySem.starEach [b] X.env = (false, PySem.eval b X.env) :: PySem.starEach [] X.env := by rfl)
    (hpl : (PySem.backTo pos (PySem.starEach [b] X.env)).any (·.1) = false := by rfl) : PIe X W (.Tuple es kk tpos) (.Call (.Name "zip" p) [a, b] [] pos) (iZip seqE fa fb) :=
  PI.weak (SMZ.pi_z hg hm (pa_cons ha (pa_cons hb pa_nil hs2) hs) hs hpl) fun σ H R ⟨w, r, h, e, Rr, k⟩ => by
    subst e
    refine ⟨w, r, h, rfl, Rr, EK.cutI (fun x h1 w1 v1 l1 R1 q1 k1 => ?_) k⟩
    refine ⟨w1, r, h1, rfl, Rr.le l1 R1, EK.cutI (fun y h2 w2 v2 l2 R2 q2 k2 => ?_) (IK.le l1 k1)⟩
    split at k2
    · rename_i t xs d1 u ys d2 hx hy
      obtain ⟨a, ea, sa⟩ := seqSt_E R2 (q1.le R1 l2) hx
      obtain ⟨b, eb, sb⟩ := seqSt_E R2 q2 hy
      obtain ⟨vs, s1, _⟩ := sa w2 h2 LeS.refl R2 fun _ _ => rfl
      obtain ⟨us, s2, _⟩ := sb w2 h2 LeS.refl R2 fun _ _ => rfl
      subst ea eb
      exact ⟨a, b, vs, us, t, u, rfl, s1, s2, k2 w2 _ l2 R2 (wk_zip sa sb)⟩
    · exact k2.elim
theorem i_rng1 (hg : Gl X "range") (hm : X.mg "range" = none) (ha : PEs X W a fa) (hs : PySem.starEach [a] X.env = (false, PySem.eval a X.env) :: PySem.starEach [] X.env := by rfl) : PIs X W tg (.Call (.Name "range" p) [a] [] pos) (iRng1 fa) :=
  PI.weak (pi_range1 hg hm (pa_cons ha pa_nil hs) hs) fun σ H R ⟨w, r, h, e, Rr, k⟩ => by
    subst e
    refine ⟨w, r, h, rfl, Rr, EK.cutI (fun x h1 w1 v1 l1 R1 q1 k1 => ?_) k⟩
    split at k1
    · rename_i j
      have e1 : v1 = .int j := q1
      subst e1
      split at k1
      · rename_i c
        exact ⟨j, rfl, c.1, c.2, k1 w1 _ l1 R1 wk_range⟩
      · exact k1.elim
    · exact k1.elim
theorem i_rng2 (hg : Gl X "range") (hm : X.mg "range" = none) (ha : PEs X W a fa) (hb : PEs X W b fb) (hs : PySem.starEach [a, b] X.env = (false, PySem.eval a X.env) :: PySem.starEach [b] X.env := by rfl) (hs2 : PySem.starEach [b] X.env = (false, PySem.eval b X.env) :: PySem.starEach [] X.env := by rfl) : PIs X W tg (.Call (.Name "range" p) [a, b] [] pos) (iRng2 fa fb) :=
  PI.weak (pi_range2 hg hm (pa_cons ha (pa_cons hb pa_nil hs2) hs) (by rw [hs, hs2]; rfl) (by rw [hs2]; rfl)) fun σ H R ⟨w, r, h, e, Rr, k⟩ => by
    subst e
    refine ⟨w, r, h, rfl, Rr, EK.cutI (fun x h1 w1 v1 l1 R1 q1 k1 => ?_) k⟩
    refine ⟨w1, r, h1, rfl, Rr.le l1 R1, EK.cutI (fun y h2 w2 v2 l2 R2 q2 k2 => ?_) (IK.le l1 k1)⟩
    split at k2
    · rename_i i j
      have e1 : v1 = .int i := q1
      have e2 : v2 = .int j := q2
      subst e1 e2
      split at k2
      · rename_i c
        exact ⟨i, j, rfl, c, k2 w2 _ l2 R2 wk_range⟩
      · exact k2.elim
    · exact k2.elim
theorem b_for (hp : PySem.PassesOwn (PySem.model X.prog X.w) X.A X.env X.xe) (hc : X.calm = true) (hi : PIs X W tg e it) (hg : PGt X tg g) (hb : ∀ w1 M1, PBs X W w1 M1 sts f)
    (hs : ∀ x, PySem.foldedSetIterable e X.env x = pure x := by intro _; rfl) : PSs' X W w0 M0 (.For tg e sts [] pos) (sFor g it f) := by
  refine ⟨fun pins s σ H D Iv ⟨w, r, h, eH, R, k⟩ => ?_⟩
  subst eH
  -- the anchor of the turns is chosen behind the iterable
  have body : PSs X sts (fun D σ H => ∃ w1 M1, tS X.K X.mg W w1 M1 f D σ H) := ⟨fun pins s σ H D I ⟨w1, M1, q⟩ => (hb w1 M1).run pins s σ H D I q⟩
  refine (ps_for hp hc hi hg body hs).run pins s σ w.H D Iv ?_
  refine ⟨w, r, h, rfl, R.rel, ?_⟩
  have k : SK X.K X.mg W w0 M0 D ((it r h).then r fun p h1 => forL g f p.2 h1 p.1 r h1) := k
  cases hit : it r h with
  | no =>
    rw [hit] at k
    exact k.elim
  | ex e h1 =>
    rw [hit] at k
    exact fun w' cls d l R' q => k w' σ cls d (R.le' l R') q
  | ok p h1 =>
    rw [hit] at k
    obtain ⟨xs, dep⟩ := p
    have k : SK X.K X.mg W w0 M0 D (forL g f dep h1 xs r h1) := k
    intro w' J l R' wk
    have wk : Wk X.K X.mg (owns r σ) w' h1 J xs dep := wk
    refine ⟨fun i m σ2 H2 => m = xs.length - i ∧ i ≤ xs.length ∧ ∃ w2 r2 h2, w2.H = H2 ∧ RelS X.K X.mg w0 M0 w2 r2 h2 σ2 ∧ LeS (owns r σ) w' w2 ∧ (∀ b, owns r2 σ2 b → owns r σ b ∨ w'.H b = none) ∧ SK X.K X.mg W w0 M0 D (forL g f dep h1 (xs.drop i) r2 h2),
      ⟨xs.length, by simp, Nat.zero_le _, w', r, h1, rfl, R.le' l R', LeS.refl, fun b o => .inl o, k⟩, ?_⟩
    rintro i m σ2 H2 ⟨em, hi, w2, r2, h2, rfl, R2, l2, f2, k2⟩
    by_cases hlt : i < xs.length
    · have hd0 : xs.drop i = xs[i] :: xs.drop (i + 1) := List.drop_eq_getElem_cons hlt
      rw [hd0] at k2
      obtain ⟨sm, k2⟩ := chkS_SK k2
      obtain ⟨go, stop, yld⟩ := wk w2 h2 l2 R2.rel.hp sm
      refine .inr ⟨go i hlt, fun σ3 H3 => ∃ w3 r3 h3, w3.H = H3 ∧ RelS X.K X.mg w0 M0 w3 r3 h3 σ3 ∧ LeS (owns r σ) w' w3 ∧ (∀ b, owns r3 σ3 b → owns r σ b ∨ w'.H b = none) ∧ SK X.K X.mg W w0 M0 D (forL g f dep h1 (xs.drop (i + 1)) r3 h3),
        fun σ' H' z => ⟨xs.length - (i + 1), by omega, rfl, hlt, z⟩, fun x H' y => ?_⟩
      obtain ⟨w3, v, rfl, l3, R3, hv, qv⟩ := yld i x H' hlt y
      have ev : xs[i] = v := by
        rw [List.getElem?_eq_getElem hlt] at hv
        exact Option.some.inj hv
      rw [ev] at k2
      cases hp : g.put v r2 with
      | none =>
        rw [hp] at k2
        exact k2.elim
      | some r1 =>
        rw [hp] at k2
        have k2 : SK X.K X.mg W w0 M0 D ((f r1 h2).turn (forL g f dep h1 (xs.drop (i + 1)))) := k2
        -- two anchors at once: the outer one, and the loop's start
        have RA : RelS X.K X.mg w' (owns r σ) w3 r2 h2 σ2 := ⟨R2.rel.le l3 R3, l2.le l3, f2⟩
        refine ⟨w', owns r σ, w3, r2, h2, v, r1, rfl, RA, qv, hp, fun σ1 RA1 _ => ?_⟩
        refine ⟨w', owns r σ, w3, r1, h2, rfl, RA1, ?_⟩
        have hM : ∀ b, owns r σ b → M0 b ∨ w0.H b = none := R.fr
        have up : ∀ {w4 : Rw} {r4 : Env} {h4 : Heap} {σ4 : L2.St}, RelS X.K X.mg w' (owns r σ) w4 r4 h4 σ4 → RelS X.K X.mg w0 M0 w4 r4 h4 σ4 := fun {w4 r4 h4 σ4} R4 =>
          ⟨R4.rel, (R.le.le l).trans R4.le hM, fun b o => (R4.fr b o).elim (fun z => hM b z) fun z => .inr ((R.le.le l).fresh z)⟩
        cases hf : f r1 h2 with
        | nx r4 h4 =>
          rw [hf] at k2
          exact fun w4 σ4 R4 => ⟨w4, r4, h4, rfl, up R4, R4.le, R4.fr, k2⟩
        | ct r4 h4 =>
          rw [hf] at k2
          exact fun w4 σ4 R4 => ⟨w4, r4, h4, rfl, up R4, R4.le, R4.fr, k2⟩
        | bk r4 h4 =>
          rw [hf] at k2
          exact fun w4 σ4 R4 => k2 w4 σ4 (up R4)
        | rt x h4 =>
          rw [hf] at k2
          exact fun w4 v4 l4 R4 q4 => k2 w4 v4 ((R.le.le l).trans l4 hM) R4 (q4.backS (R.le.le l))
        | ex e r4 h4 =>
          rw [hf] at k2
          exact fun w4 σ4 cls d R4 q4 => k2 w4 σ4 cls d (up R4) q4
        | no =>
          rw [hf] at k2
          exact k2
    · have e : i = xs.length := by omega
      subst e
      rw [List.drop_length] at k2
      obtain ⟨sm, k2⟩ := chkS_SK k2
      obtain ⟨go, stop, yld⟩ := wk w2 h2 l2 R2.rel.hp sm
      exact .inl ⟨stop, k2 w2 σ2 R2⟩
end
end SM

/-! SMFn: comprehensions, defs, calls. -/
namespace SM
open PySem (Str Expr Stmt Pos Operator CmpOp Scope)
open L2 hiding St tB tAnd tOr tNot iRng1 iRng2
abbrev W0 : WX := fun _ _ _ _ => False
section
variable {X : Cx} {W : WX} {pos : Pos} {elt tg iter : Expr} {ifs : List Expr} {scope : Scope} {own : List (Str × Nat)} {g : Tg} {it : I} {c : T} {fe : E}
theorem lc_cut {K : Frag} {mg : Mg} (hsl : ∀ i, i ∈ g.slots → i ∈ own.map (·.2)) : ∀ σ H Q, tE K mg W (eLc (own.map (·.2)) g it c fe) σ H Q → tLc (tIe K mg W it) (tG K mg g) (tT K mg W0 c) (tE K mg W0 fe) (own.map (·.2)) σ H Q := fun σ H Q ⟨w, r, h, eH, R, k⟩ => by
  subst eH
  generalize own.map (·.2) = vs at *
  refine ⟨w, r, h, rfl, R, ?_⟩
  have k : EK K mg W w σ Q ((it r h).bind fun p h1 => if p.1.length ≤ line then lcGo g c fe (wipeE r vs) p.2 h1 p.1 [] h1 else .no) := k
  cases hit : it r h with
  | no =>
    rw [hit] at k
    exact k.elim
  | ex e h1 =>
    rw [hit] at k
    exact k
  | ok p h1 =>
    rw [hit] at k
    obtain ⟨xs, dep⟩ := p
    have k : EK K mg W w σ Q (if xs.length ≤ line then lcGo g c fe (wipeE r vs) dep h1 xs [] h1 else .no) := k
    split at k
    · rename_i hz
      intro w' J l R' wk D hD
      have wk : Wk K mg (fun _ => False) w' h1 J xs dep := wk
      have hDw : w.H D = none := l.fresh hD
      refine ⟨fun i m H2 => m = xs.length - i ∧ i ≤ xs.length ∧ ∃ w2 h2 acc ys, w2.H = H2 ∧ Le w' w2 ∧ RHp K mg w2 h2 ∧ w2.H D = some (.lst ys) ∧ RVals K w2 acc ys ∧ w2.P D ∧ w2.out D ∧ acc.length ≤ i ∧ EK K mg W w σ Q (lcGo g c fe (wipeE r vs) dep h1 (xs.drop i) acc h2),
        ⟨xs.length, by simp, Nat.zero_le _, w'.newL D [], h1, [], [], rfl, Le.newL hD R', R'.newL hD, upd_same, rfl, .inl rfl, R'.outN hD, Nat.zero_le _, k⟩, ?_⟩
      rintro i m H2 ⟨em, hi, w2, h2, acc, ys, rfl, l2, R2, eD, qa, pD, uD, hacc, k2⟩
      by_cases hlt : i < xs.length
      · have hd0 : xs.drop i = xs[i] :: xs.drop (i + 1) := List.drop_eq_getElem_cons hlt
        rw [hd0] at k2
        obtain ⟨sm, k2⟩ := chkE_EK k2
        obtain ⟨go, stop, yld⟩ := wk w2 h2 l2.s R2 sm
        refine .inr ⟨go i hlt, fun H3 => ∃ w3 h3 acc3 ys3, w3.H = H3 ∧ Le w' w3 ∧ RHp K mg w3 h3 ∧ w3.H D = some (.lst ys3) ∧ RVals K w3 acc3 ys3 ∧ w3.P D ∧ w3.out D ∧ acc3.length ≤ i + 1 ∧ EK K mg W w σ Q (lcGo g c fe (wipeE r vs) dep h1 (xs.drop (i + 1)) acc3 h3),
          fun H' z => ⟨xs.length - (i + 1), by omega, rfl, hlt, z⟩, fun x H' y => ?_⟩
        obtain ⟨w3, v, rfl, l3, R3, hv, qv⟩ := yld i x H' hlt y
        have ev : xs[i] = v := by
          rw [List.getElem?_eq_getElem hlt] at hv
          exact Option.some.inj hv
        rw [ev] at k2
        cases hp : g.put v (wipeE r vs) with
        | none =>
          rw [hp] at k2
          exact k2.elim
        | some r1 =>
          rw [hp] at k2
          have RW : Rel K mg w3 (wipeE r vs) h2 (wipe σ vs) := ((R.le l R').le (l2.trans l3) R3).wipe vs
          refine ⟨w3, _, w3, wipeE r vs, h2, v, r1, rfl, RW.self, qv, hp, fun σ1 RA1 hw => ⟨(hw vs hsl).trans (wipe_wipe σ vs), ?_⟩⟩
          refine ⟨w3, r1, h2, rfl, RA1.rel, ?_⟩
          have e3 : w3.H D = some (.lst ys) := l3.keep D _ eD uD
          have u3 : w3.out D := l3.out eD uD
          have p3 : w3.P D := (l3.P D _ eD).mpr pD
          have k2 : EK K mg W w σ Q (match c r1 h2 with
            | .ok true h8 => match fe r1 h8 with
              | .ok y h9 => match y.keep with
                | some z => lcGo g c fe (wipeE r vs) dep h1 (xs.drop (i + 1)) (acc ++ [z]) h9
                | none => .no
              | _ => .no
            | .ok false h8 => lcGo g c fe (wipeE r vs) dep h1 (xs.drop (i + 1)) acc h8
            | _ => .no) := k2
          cases hc : c r1 h2 with
          | no =>
            rw [hc] at k2
            exact k2.elim
          | ex e h4 =>
            rw [hc] at k2
            exact k2.elim
          | ok b h4 =>
            rw [hc] at k2
            intro w4 l4 R4
            have e4 : w4.H D = some (.lst ys) := l4.keep D _ e3 u3
            have u4 : w4.out D := l4.out e3 u3
            have p4 : w4.P D := (l4.P D _ e3).mpr p3
            have l24 := l3.trans l4
            cases b with
            | false =>
              rw [if_neg Bool.false_ne_true]
              exact ⟨w4, h4, acc, ys, rfl, l2.trans l24, R4, e4, qa.le R2 l24, p4, u4, Nat.le_succ_of_le hacc, k2⟩
            | true =>
              rw [if_pos rfl]
              refine ⟨w4, r1, h4, rfl, RA1.rel.le l4 R4, ?_⟩
              have k2 : EK K mg W w σ Q (match fe r1 h4 with
                | .ok y h2 => match y.keep with
                  | some z => lcGo g c fe (wipeE r vs) dep h1 (xs.drop (i + 1)) (acc ++ [z]) h2
                  | none => .no
                | _ => .no) := k2
              cases hf : fe r1 h4 with
              | no =>
                rw [hf] at k2
                exact k2.elim
              | ex e h5 =>
                rw [hf] at k2
                exact k2.elim
              | ok y h5 =>
                rw [hf] at k2
                intro w5 v5 l5 R5 q5
                have k2 : EK K mg W w σ Q (match y.keep with
                  | some z => lcGo g c fe (wipeE r vs) dep h1 (xs.drop (i + 1)) (acc ++ [z]) h5
                  | none => .no) := k2
                cases hk : y.keep with
                | none =>
                  rw [hk] at k2
                  exact k2.elim
                | some z =>
                  rw [hk] at k2
                  have e5 : w5.H D = some (.lst ys) := l5.keep D _ e4 u4
                  have u5 : w5.out D := l5.out e4 u4
                  have p5 : w5.P D := (l5.P D _ e4).mpr p4
                  obtain ⟨w6, eH6, l6, R6, q6⟩ := q5.keep R5 l5 hk
                  have e6 : w6.H D = some (.lst ys) := l6.keep D _ e4 u4
                  have u6 : w6.out D := l6.out e4 u4
                  have p6 : w6.P D := (l6.P D _ e4).mpr p4
                  have l26 := l24.trans l6
                  have qa6 := qa.le R2 l26
                  refine ⟨ys, e5, by rw [← qa.length]; exact Nat.lt_of_le_of_lt hacc (Nat.lt_of_lt_of_le hlt hz), ?_⟩
                  refine ⟨w6.updO D (ys ++ [v5]), h5, acc ++ [z], ys ++ [v5], ?_, ?_, R6.updO p6 u6, upd_same, ?_, p6, u6, ?_, k2⟩
                  · show upd w6.H D _ = upd w5.H D _
                    rw [eH6]
                  · have l' := l2.trans l26
                    exact ⟨l'.n, l'.io, fun b o e u => (upd_ne (ne_of_none e hD)).trans (l'.keep b o e u), fun b o e => by
                      obtain ⟨o', e'⟩ := l'.there b o e
                      exact ⟨o', (upd_ne (ne_of_none e hD)).trans e'⟩, l'.P, l'.new⟩
                  · exact (qa6.append (RVals.one q6)).updO p6
                  · rw [List.length_append, List.length_singleton]
                    omega
      · have e : i = xs.length := by omega
        subst e
        rw [List.drop_length] at k2
        obtain ⟨sm, k2⟩ := chkE_EK k2
        obtain ⟨go, stop, yld⟩ := wk w2 h2 l2.s R2 sm
        refine .inl ⟨stop, ?_⟩
        exact k2 w2 (.ref D) (l.trans l2) R2 ⟨D, ys, rfl, hDw, eD, qa, pD, uD⟩
    · exact k.elim
theorem s_lc (hc : X.calm = true) (hN : X.N.Nodup) (ok : BlkOk X.N X.env.scope scope own) (hi : PIe X W tg iter it) (hsl : ∀ i, i ∈ g.slots → i ∈ own.map (·.2))
    (hg : ∀ (s : PySem.Shared) (H : Hp) (C : Addr) (cl : List (Str × Addr)) (fp : List Addr), PGt (X.blk s H scope (PySem.compEnvC scope cl C X.env) fp) tg g)
    (ht : ∀ (s : PySem.Shared) (H : Hp) (C : Addr) (cl : List (Str × Addr)) (fp : List Addr), PTs (X.blk s H scope (PySem.compEnvC scope cl C X.env) fp) ifs (tT X.K X.mg W0 c))
    (he : ∀ (s : PySem.Shared) (H : Hp) (C : Addr) (cl : List (Str × Addr)) (fp : List Addr), PEs (X.blk s H scope (PySem.compEnvC scope cl C X.env) fp) W0 elt fe)
    (hs : ∀ x, PySem.foldedSetIterable iter X.env x = pure x := by intro _; rfl) : PEs X W (.ListComp elt [⟨tg, iter, ifs, 0⟩] scope pos) (eLc (own.map (·.2)) g it c fe) :=
  PE.weak (pe_lc hc hN hi ok hg ht he hs) (lc_cut hsl)
theorem g_lc {i : Nat} {y : Str} {py spos : Pos} (hc : X.calm = true) (hN : X.N.Nodup) (ok : BlkOk X.N X.env.scope scope own) (hi : PIe X W tg iter it) (hsl : ∀ i, i ∈ g.slots → i ∈ own.map (·.2))
    (hg : ∀ (s : PySem.Shared) (H : Hp) (C : Addr) (cl : List (Str × Addr)) (fp : List Addr), PGt (X.blk s H scope (PySem.compEnvC scope cl C X.env) fp) tg g)
    (ht : ∀ (s : PySem.Shared) (H : Hp) (C : Addr) (cl : List (Str × Addr)) (fp : List Addr), PTs (X.blk s H scope (PySem.compEnvC scope cl C X.env) fp) ifs (tT X.K X.mg W0 c))
    (he : ∀ (s : PySem.Shared) (H : Hp) (C : Addr) (cl : List (Str × Addr)) (fp : List Addr), PEs (X.blk s H scope (PySem.compEnvC scope cl C X.env) fp) W0 elt fe)
    (hsw : PySem.swapsWith (.ListComp elt [⟨tg, iter, ifs, 0⟩] scope pos) (some (.Name y py)) spos.line X.env = pure true) (hy : X.N[i]? = some y := by rfl) (hyl : X.env.scope.names.lookup y = some .local := by rfl)
    (hs : ∀ x, PySem.foldedSetIterable iter X.env x = pure x := by intro _; rfl) : PAsg X W (.Assign [.Name y py] (.ListComp elt [⟨tg, iter, ifs, 0⟩] scope pos) spos) i (eLc (own.map (·.2)) g it c fe) :=
  PS.weak (ps_setLc hc hN hy hyl hsw hi ok hg ht he hs) fun D σ H k => lc_cut hsl σ H _ k
theorem t_yes : PTs X [] (tT X.K X.mg W0 tYes) := ⟨fun pins s σ H Q I ⟨w, r, h, e, R, k⟩ => by
  subst e
  exact pts_nil.run pins s σ w.H Q I (k w (Le.refl w) R.hp)⟩
theorem t_one {cc : Expr} (h : PTs' X W0 cc c) : PTs X [cc] (tT X.K X.mg W0 c) := pts_one h
end

/-! ### the end of a call: what is new and no more led to is forgotten -/
section
variable {K : Frag} {mg : Mg} {w w0 w1 w2 : Rw} {h h' : Heap} {a : Addr}
mutual
theorem RVal.under : ∀ {x : Val} {v : V}, RVal K w x v → x.under w.n
  | .none, _, _ => trivial
  | .bool _, _, _ => trivial
  | .int _, _, _ => trivial
  | .str _, _, _ => trivial
  | .tup _, _, ⟨_, _, _, _, q⟩ => RVals.under q
  | .ro _, _, ⟨_, _, _, _, q⟩ => RVals.under q
  | .scr _, _, ⟨_, _, _, _, q⟩ => RVals.under q
  | .obj k, _, ⟨hk, _⟩ => hk
theorem RVals.under : ∀ {xs : List Val} {vs : List V}, RVals K w xs vs → underAll w.n xs
  | [], _, _ => trivial
  | _ :: _, _, ⟨_, _, _, q1, q2⟩ => ⟨RVal.under q1, RVals.under q2⟩
end
theorem RFs.under : ∀ {fs : List (Str × Val)} {gs : List (Str × V)}, RFs K w fs gs → underF w.n fs
  | [], _, _ => trivial
  | (_, _) :: _, _, ⟨_, _, _, q1, q2⟩ => ⟨q1.under, RFs.under q2⟩
theorem RKs.under : ∀ {fs : List (L2.Key × Val)} {gs : List (L2.Key × V)}, RKs K w fs gs → underK w.n fs
  | [], _, _ => trivial
  | (_, _) :: _, _, ⟨_, _, _, q1, q2⟩ => ⟨q1.under, RKs.under q2⟩
theorem RObj.under {o : HObj} (q : RObj K mg w a o) : o.under w.n := by
  cases o with
  | lst vs => obtain ⟨xs, _, q⟩ := q; exact q.under
  | ins c fs => obtain ⟨C, dx, gs, _, _, q⟩ := q; exact q.under
  | dct kvs => obtain ⟨gs, _, q⟩ := q; exact q.under
def Rw.cut (w : Rw) (n : Nat) : Rw := { w with n := n }
mutual
theorem RVal.cut {n : Nat} : ∀ {x : Val} {v : V}, RVal K w x v → x.under n → RVal K (w.cut n) x v
  | .none, _, q, _ => q
  | .bool _, _, q, _ => q
  | .int _, _, q, _ => q
  | .str _, _, q, _ => q
  | .tup _, _, ⟨b, xs, e, s, q⟩, u => ⟨b, xs, e, s, RVals.cut q u⟩
  | .ro _, _, ⟨b, xs, e, s, q⟩, u => ⟨b, xs, e, s, RVals.cut q u⟩
  | .scr _, _, ⟨b, xs, e, s, q⟩, u => ⟨b, xs, e, s, RVals.cut q u⟩
  | .obj k, _, ⟨hk, e⟩, u => ⟨u, e⟩
theorem RVals.cut {n : Nat} : ∀ {xs : List Val} {vs : List V}, RVals K w xs vs → underAll n xs → RVals K (w.cut n) xs vs
  | [], _, q, _ => q
  | _ :: _, _, ⟨y, ys, e, q1, q2⟩, u => ⟨y, ys, e, RVal.cut q1 u.1, RVals.cut q2 u.2⟩
end
theorem RFs.cut {n : Nat} : ∀ {fs : List (Str × Val)} {gs : List (Str × V)}, RFs K w fs gs → underF n fs → RFs K (w.cut n) fs gs
  | [], _, q, _ => q
  | (_, _) :: _, _, ⟨y, g, e, q1, q2⟩, u => ⟨y, g, e, q1.cut u.1, RFs.cut q2 u.2⟩
theorem RKs.cut {n : Nat} : ∀ {fs : List (L2.Key × Val)} {gs : List (L2.Key × V)}, RKs K w fs gs → underK n fs → RKs K (w.cut n) fs gs
  | [], _, q, _ => q
  | (_, _) :: _, _, ⟨y, g, e, q1, q2⟩, u => ⟨y, g, e, q1.cut u.1, RKs.cut q2 u.2⟩
theorem RObj.cut {n : Nat} {o : HObj} (q : RObj K mg w a o) (u : o.under n) : RObj K mg (w.cut n) a o := by
  cases o with
  | lst vs => obtain ⟨xs, e, q⟩ := q; exact ⟨xs, e, q.cut u⟩
  | ins c fs => obtain ⟨C, dx, gs, e, c, q⟩ := q; exact ⟨C, dx, gs, e, c, q.cut u⟩
  | dct kvs => obtain ⟨gs, e, q⟩ := q; exact ⟨gs, e, q.cut u⟩
theorem out_cut {n : Nat} (hn : n ≤ w.n) (u : w.out a) : (w.cut n).out a := fun k hk => u k (Nat.lt_of_lt_of_le hk hn)
theorem RHp.cut (R : RHp K mg w h) (l : Le w w1) (R1 : RHp K mg w1 h') (s : Shr h h') : RHp K mg (w1.cut w.n) (h'.take h.length) where
  len := by
    rw [List.length_take, Nat.min_eq_left s.1]
    exact R.len
  obj := fun k o e => by
    have hk : k < h.length := by
      have := (List.getElem?_eq_some_iff.mp e).1
      rw [List.length_take] at this
      omega
    rw [List.getElem?_take_of_lt hk] at e
    have q := R1.obj k o e
    refine q.cut ?_
    rcases s.2 k o hk e with z | z
    · exact (R.obj k o z).under
    · rw [← R.len]
      exact z
  inj := fun j k hj hk e => R1.inj j k (Nat.lt_of_lt_of_le hj l.n) (Nat.lt_of_lt_of_le hk l.n) e
  inP := fun k hk => R1.inP k (Nat.lt_of_lt_of_le hk l.n)
  ph := R1.ph
theorem Le.cut (l : Le w w1) : Le w (w1.cut w.n) := ⟨Nat.le_refl _, l.io, l.keep, l.there, l.P, fun k h1 h2 => absurd h2 (Nat.not_lt.mpr h1)⟩
theorem RRes.cut (l : Le w w1) {x : RV} {v : V} (q : RRes K w w1 x v) (u : x.under w.n) : RRes K w (w1.cut w.n) x v := by
  cases x with
  | v x => exact RVal.cut q u
  | own xs =>
    obtain ⟨a, ys, e, e0, e1, q, p, o⟩ := q
    exact ⟨a, ys, e, e0, e1, q.cut u, p, out_cut l.n o⟩
  | view xs =>
    obtain ⟨a, ys, e, s, q⟩ := q
    exact ⟨a, ys, e, ⟨s.1, out_cut l.n s.2⟩, q.cut u⟩
theorem LeS.le0 (l : LeS (fun _ => False) w w1) : Le w w1 := ⟨l.n, l.io, fun b o e u => l.keep b o e u id, l.there, fun b o e => ⟨l.P b o e, l.P2 b o e id⟩, l.new⟩
theorem RArgs.len : ∀ {xs : List RV} {vs : List V}, RArgs K w xs vs → xs.length = vs.length
  | [], vs, q => by
    have e : vs = [] := q
    subst e
    rfl
  | x :: xs, vs, ⟨v, r, e, _, q⟩ => by
    subst e
    rw [List.length_cons, List.length_cons, RArgs.len q]
theorem RArgs.get : ∀ {xs : List RV} {vs : List V} {i : Nat} {x : RV}, RArgs K w xs vs → xs[i]? = some x → ∃ v, vs[i]? = some v ∧ RRes K w w x v
  | [], _, _, _, _, e => by simp at e
  | x :: xs, _, 0, _, ⟨y, ys, e, q1, q2⟩, e2 => by
    subst e
    have e2 : some x = some _ := e2
    cases e2
    exact ⟨y, rfl, q1⟩
  | x :: xs, _, i + 1, _, ⟨y, ys, e, q1, q2⟩, e2 => by
    subst e
    obtain ⟨v, h1, h2⟩ := RArgs.get (i := i) q2 (by simpa using e2)
    exact ⟨v, by simpa using h1, h2⟩
/-- a def's state at its entry -/
theorem Rel.entry {N : List Str} {rs : List RV} {vs : List V} (R : RHp K mg w h) (q : RArgs K w rs vs) (hN : vs.length ≤ N.length) : RelS K mg w (fun _ => False) w (rs.map some ++ List.replicate (N.length - rs.length) none) h (start N vs) := by
  have hl := q.len
  have notown : ∀ {i : Nat} {xs : List Val}, (rs.map some ++ List.replicate (N.length - rs.length) none)[i]? ≠ some (some (.own xs)) := by
    intro i xs e
    by_cases hi : i < rs.length
    · rw [List.getElem?_append_left (by rw [List.length_map]; exact hi), List.getElem?_map, List.getElem?_eq_getElem hi] at e
      have e : rs[i] = .own xs := Option.some.inj (Option.some.inj e)
      obtain ⟨v, _, s⟩ := q.get (List.getElem?_eq_getElem hi)
      rw [e] at s
      obtain ⟨a, ys, _, e0, e1, _⟩ := s
      rw [e0] at e1
      cases e1
    · rw [List.getElem?_append_right (by rw [List.length_map]; omega), List.getElem?_replicate] at e
      split at e
      · cases e
      · cases e
  refine ⟨⟨R, ?_, fun i x e => ?_, fun i j xs ys a e1 _ _ _ => absurd e1 notown⟩, LeS.refl, fun a ⟨i, xs, e1, _⟩ => absurd e1 notown⟩
  · unfold start
    rw [List.length_append, List.length_append, List.length_map, List.length_map, List.length_replicate, List.length_replicate, hl]
  · by_cases hi : i < rs.length
    · rw [List.getElem?_append_left (by rw [List.length_map]; exact hi), List.getElem?_map, List.getElem?_eq_getElem hi] at e
      have e : rs[i] = x := Option.some.inj (Option.some.inj e)
      obtain ⟨v, hv, s⟩ := q.get (List.getElem?_eq_getElem hi)
      rw [e] at s
      refine ⟨v, ?_, ?_⟩
      · unfold start
        rw [List.getElem?_append_left (by rw [List.length_map, ← hl]; exact hi), List.getElem?_map, hv]
        rfl
      · cases x with
        | v x => exact s
        | own xs =>
          obtain ⟨a, ys, _, e0, e1, _⟩ := s
          rw [e0] at e1
          cases e1
        | view xs =>
          obtain ⟨a, ys, e1, s1, s2⟩ := s
          exact ⟨a, ys, e1, ⟨s1, fun ⟨j, zs, f1, _⟩ => notown f1⟩, s2⟩
    · rw [List.getElem?_append_right (by rw [List.length_map]; omega), List.getElem?_replicate] at e
      split at e
      · cases e
      · cases e
theorem RExn.cut (l : Le w w1) {e : Exn} {cls : PySem.Value} {d : Option Addr} (q : RExn K mg w1 e cls d) (u : underAll w.n e.args) : RExn K mg (w1.cut w.n) e cls d := by
  obtain ⟨C, e1, e2, q⟩ := q
  refine ⟨C, e1, e2, ?_⟩
  cases ha : e.args with
  | nil =>
    rw [ha] at q
    exact q
  | cons x xs =>
    rw [ha] at q u
    obtain ⟨dx, v, e3, e4, e5, q⟩ := q
    exact ⟨dx, v, e3, e4, e5, q.cut u.1⟩
theorem fin_ok {Q : VK} {Ex : XK} (R : RHp K mg w h) : ∀ {o : SO}, FK K mg w Q Ex (fin h o) → SK K mg (fun cls d _ H => Ex cls d H) w (fun _ => False) { nx := fun _ H' => Q .non H', rt := Q } o
  | .nx r h', k => fun w1 σ1 R1 => by
    have l := R1.le.le0
    have k : ∀ w' v, Le w w' → RHp K mg w' _ → RRes K w w' (.v .none) v → Q v w'.H := k
    by_cases s : Shr h h'
    · rw [if_pos s] at k
      exact k (w1.cut w.n) .non l.cut (R.cut l R1.rel.hp s) rfl
    · rw [if_neg s] at k
      exact k w1 .non l R1.rel.hp rfl
  | .rt x h', k => fun w1 v1 l1 R1 q1 => by
    have l := l1.le0
    have k : ∀ w' v, Le w w' → RHp K mg w' _ → RRes K w w' x v → Q v w'.H := k
    by_cases s : Shr h h' ∧ x.under h.length
    · rw [if_pos s] at k
      exact k (w1.cut w.n) v1 l.cut (R.cut l R1 s.1) (q1.cut l (by rw [← R.len]; exact s.2))
    · rw [if_neg s] at k
      exact k w1 v1 l R1 q1
  | .ex e r h', k => fun w1 σ1 cls d R1 q1 => by
    have l := R1.le.le0
    have k : ∀ w' cls d, Le w w' → RHp K mg w' _ → RExn K mg w' e cls d → Ex cls d w'.H := k
    by_cases s : Shr h h' ∧ underAll h.length e.args
    · rw [if_pos s] at k
      exact k (w1.cut w.n) cls d l.cut (R.cut l R1.rel.hp s.1) (q1.cut l (by rw [← R.len]; exact s.2))
    · rw [if_neg s] at k
      exact k w1 cls d l R1.rel.hp q1
  | .bk _ _, k => k.elim
  | .ct _ _, k => k.elim
  | .no, k => k.elim
end
/-- THE RULE for a def -/
theorem fn_ok {P : PySem.Program} {w : PySem.World} {K : Frag} {mg : Mg} {base : PySem.Heap} {x qual : Str} {st : Stmt} {f : Addr} {fd : PySem.FuncData} {N ps : List Str} {k : Nat} {body : S} (F : Fun K x qual st f fd) (S : FnScope N ps (defScope st))
    (hb : ∀ (X : Cx) (W : WX) (w0 : Rw), X.calm = true → Takes X W → PySem.PassesOwn (PySem.model X.prog X.w) X.A X.env X.xe → Room k X.A → X.prog = P → X.w = w → X.base = base → X.N = N → X.K = K → X.mg = mg → X.env.scope = defScope st → (∀ x, X.fn x = true) → X.stack = X.env :: X.outer → X.env.frame = some X.env.locals → X.ex = [] → PBs X W w0 (fun _ => False) (defBody st) body) (hN : ps.length ≤ N.length) :
    FnOk P w K mg base (L2.CX P w) (k + 1) f fd ps (spF K mg ps.length (mkFn N.length body)) := by
  refine F.okX S (fun vs H Q E h => ?_) (fun cdv A outer s H vs Q E hr h => ?_)
  · obtain ⟨_, _, _, _, _, _, e, _⟩ := h
    exact e
  · obtain ⟨w', h', rs, eH, R, q, e, k'⟩ := h
    subst eH
    refine ⟨_, hb (cxOf (L2.CX P w) P w K mg base N qual (defScope st) f cdv A outer s w'.H E) (fun cls d _ H => E cls d H) w' rfl (takes_of (E := E) rfl rfl rfl rfl) (passes_of rfl) hr rfl rfl rfl rfl rfl rfl rfl (fun _ => rfl) rfl rfl rfl, ?_⟩
    have RE := Rel.entry (N := N) R q (by rw [e]; exact hN)
    exact ⟨w', _, h', rfl, RE, fin_ok R k'⟩
end SM

/-! SMTop: defs of the text that keep what ours say, calls, the law's end. -/
namespace SM
open PySem (Str Expr Stmt Pos Operator CmpOp Scope)
open L2 hiding St tB tAnd tOr tNot iRng1 iRng2
/-- a def of the text under its global name -/
structure Df (K : Frag) (mg : Mg) (y x qual : Str) (st : Stmt) (ps : List Str) : Prop where
  ex : ∃ f fd, L2.Fun K x qual st f fd ∧ mg y = some (.ref f) ∧ PySem.W.keepIn K (.ref f) = true ∧ Binds K fd ps []
/-- it keeps what fn says -/
structure DefOk (P : PySem.Program) (w : PySem.World) (K : Frag) (mg : Mg) (base : PySem.Heap) (k : Nat) (y : Str) (n : Nat) (fn : Fn) : Prop where
  ex : ∃ f fd ps, mg y = some (.ref f) ∧ PySem.W.keepIn K (.ref f) = true ∧ Binds K fd ps [] ∧ FnOk P w K mg base (L2.CX P w) k f fd ps (spF K mg n fn)
abbrev cxD (P : PySem.Program) (w : PySem.World) (K : Frag) (mg : Mg) (base : PySem.Heap) (N : List Str) (qual : Str) (st : Stmt) (f : Addr) (cdv : PySem.Value) (A : PySem.Around) (outer : List PySem.Env) (s : PySem.Shared) (H : Hp) (Ex : XK) : Cx :=
  cxOf (L2.CX P w) P w K mg base N qual (defScope st) f cdv A outer s H Ex
section
variable {P : PySem.Program} {w : PySem.World} {K : Frag} {mg : Mg} {base : PySem.Heap} {x y qual : Str} {st : Stmt} {N ps : List Str} {k n : Nat} {body : S}
/-- the body of a def keeps what body says -/
def BodyOk (P : PySem.Program) (w : PySem.World) (K : Frag) (mg : Mg) (base : PySem.Heap) (N : List Str) (qual : Str) (st : Stmt) (k : Nat) (body : S) : Prop :=
  ∀ (f : Addr) (cdv : PySem.Value) (A : PySem.Around) (outer : List PySem.Env) (s : PySem.Shared) (w0 : Rw) (Ex : XK), Room k (cxD P w K mg base N qual st f cdv A outer s w0.H Ex).A →
    Takes (cxD P w K mg base N qual st f cdv A outer s w0.H Ex) (fun cls d _ H => Ex cls d H) → PySem.PassesOwn (PySem.model P w) (cxD P w K mg base N qual st f cdv A outer s w0.H Ex).A (cxD P w K mg base N qual st f cdv A outer s w0.H Ex).env (cxD P w K mg base N qual st f cdv A outer s w0.H Ex).xe →
    PBs (cxD P w K mg base N qual st f cdv A outer s w0.H Ex) (fun cls d _ H => Ex cls d H) w0 (fun _ => False) (defBody st) body
theorem fn_body {f : Addr} {fd : PySem.FuncData} (F : L2.Fun K x qual st f fd) (S : FnScope N ps (defScope st)) (hN : ps.length ≤ N.length) (hb : BodyOk P w K mg base N qual st k body) :
    FnOk P w K mg base (L2.CX P w) (k + 1) f fd ps (spF K mg ps.length (mkFn N.length body)) := by
  refine F.okX S (fun vs H Q E h => ?_) (fun cdv A outer s H vs Q E hr h => ?_)
  · obtain ⟨_, _, _, _, _, _, e, _⟩ := h
    exact e
  · obtain ⟨w', h', rs, eH, R, q, e, k'⟩ := h
    subst eH
    refine ⟨_, hb f cdv A outer s w' E hr (takes_of (E := E) rfl rfl rfl rfl) (passes_of rfl), ?_⟩
    have RE := Rel.entry (N := N) R q (by rw [e]; exact hN)
    exact ⟨w', _, h', rfl, RE, fin_ok R k'⟩
theorem def_ok (D : Df K mg y x qual st ps) (S : FnScope N ps (defScope st)) (hN : ps.length ≤ N.length) (hb : BodyOk P w K mg base N qual st k body) : DefOk P w K mg base (k + 1) y ps.length (mkFn N.length body) := by
  obtain ⟨f, fd, F, hm, hk, b⟩ := D.ex
  exact ⟨f, fd, ps, hm, hk, b, fn_body F S hN hb⟩
end
/-- a look at the scope of a comprehension -/
def blkC (N : List Str) (sc scope : Scope) (own : List (Str × Nat)) : Bool :=
  decide (scope.kind = .function) && scope.names.all (fun y => decide (scope.names.lookup y.1 = some y.2)) && own.all (fun p => decide (N[p.2]? = some p.1))
  && scope.names.all (fun y => !decide (y.2 = .free) || (decide (sc.names.lookup y.1 = some .cell) || decide (sc.names.lookup y.1 = some .free)))
  && scope.names.all (fun y => !(decide (y.2 = .local) || decide (y.2 = .cell)) || (decide (y.1 ∈ own.map (·.1)) || !decide (y.1 ∈ N)))
theorem blk_by {N : List Str} {sc scope : Scope} {own : List (Str × Nat)} (h : blkC N sc scope own = true) : BlkOk N sc scope own := by
  unfold blkC at h
  simp only [Bool.and_eq_true, Bool.or_eq_true, Bool.not_eq_true', decide_eq_true_eq, List.all_eq_true, decide_eq_false_iff_not] at h
  obtain ⟨⟨⟨⟨h1, h2⟩, h3⟩, h4⟩, h5⟩ := h
  exact ⟨h1, h2, h3, fun y hy e => (h4 y hy).resolve_left fun z => z e, fun y hy e => (h5 y hy).resolve_left fun z => by
    simp only [Bool.or_eq_false_iff, decide_eq_false_iff_not] at z
    rcases e with e | e
    · exact z.1 e
    · exact z.2 e⟩
/-- how many arguments -/
def ArgN (fs : A) (n : Nat) : Prop := ∀ r h xs h1, fs r h = .ok xs h1 → xs.length = n
theorem an0 : ArgN aNil 0 := fun _ _ _ _ e => aNil_len e
theorem anS {fa : E} {fs : A} {n : Nat} (h : ArgN fs n) : ArgN (aCons fa fs) (n + 1) := aCons_len h
section
variable {X : Cx} {W : WX} {k j n : Nat} {x : Str} {fn : Fn} {e : Expr} {es : List Expr} {fs : A} {p pos : Pos}
theorem s_call (c : DefOk X.prog X.w X.K X.mg X.base k x n fn) (tk : Takes X W) (hr : Room j X.A) (hn : ArgN fs n) (ha : PAs X W (e :: es) fs) (hk : k ≤ j := by decide) (hg : Gl X x := by rfl) (hdb : (x == ("__debug__" : Str)) = false := by decide)
    (he : PySem.starEach (e :: es) X.env = (false, PySem.eval e X.env) :: PySem.starEach es X.env := by rfl) (hpl : (PySem.backTo pos (PySem.starEach es X.env)).any (·.1) = false := by rfl) :
    PEs X W (.Call (.Name x p) (e :: es) [] pos) (eCall fn fs) := by
  obtain ⟨f, fd, ps, hm, hkp, b, F⟩ := c.ex
  exact PE.weak (pe_callSD (E := WE W) (dvs := []) (ds := []) F (hr.mono hk) hg hm hkp b .nil (fun σ => passAt tk σ) ha hdb he hpl) (call_cut hn)
end
theorem takes0 {X : Cx} : Takes X W0 := fun _ _ ⟨a, B, sI, pins, σ, H, cls, d, e, I, nb, up, sky, na, os, ag, w⟩ => w.elim
def spL (K : Frag) (fn : Fn) : Sp := fun vs H Q Ex => ∀ mg : Mg, spF K mg 1 fn vs H Q Ex
theorem cx_none {P : PySem.Program} {w : PySem.World} {outer : List PySem.Env} {H : Hp} {s s' : PySem.Shared} {u : PySem.Value} (c : L2.CX P w outer H s (fun _ _ _ => False) u s') : False := by
  obtain ⟨_, _, _, _, _, _, _, _, _, _, _, _, e⟩ := c
  exact e
/-- the law's last word -/
theorem law_sp {K : Frag} {mg : Mg} {fn : Fn} {H : Hp} {a : Addr} {ns : List Int} (hO : Only H) (hS : SqL K H a (ns.map V.int)) (hfn : ∃ h', fn [.v (.scr (ns.map .int))] [] = .ok (.v (.bool true)) h') : spF K mg 1 fn [.ref a] H (fun v _ => v = .bl true) fun _ _ _ => False := by
  obtain ⟨h', e⟩ := hfn
  refine ⟨⟨fun _ => a, fun _ => False, 0, H⟩, [], [.v (.scr (ns.map .int))], rfl, ⟨rfl, fun k o e => by simp at e, fun j k hj => absurd hj (Nat.not_lt_zero _), fun k hk => absurd hk (Nat.not_lt_zero _), fun b hb => hb.elim⟩, ⟨.ref a, [], rfl, ⟨a, ns.map V.int, rfl, ?_, ?_⟩, rfl⟩, rfl, ?_⟩
  · rcases hS with z | z
    · exact .inl ⟨z, fun z => z⟩
    · exact .inr z
  · clear e hS hO
    induction ns with
    | nil => rfl
    | cons n ns ih => exact ⟨_, _, rfl, rfl, ih⟩
  · rw [e]
    intro w' v l R q
    exact q
end SM

/-! SMMore: further statements, constants. -/
namespace SM
open PySem (Str Expr Stmt Pos Operator CmpOp Scope)
open L2 hiding St tB tAnd tOr tNot iRng1 iRng2
open PySem (wpAny_getItem_list wpAny_getItem_list_neg seqIndex_of seqIndex_neg)
/-! ### constants of the module -/
def KV (K : Frag) (y : Val) (u : PySem.Value) : Prop := ∃ v, RelV v u ∧ ∀ w, RVal K w y v
def KVs (K : Frag) (ys : List Val) (us : List PySem.Value) : Prop := ∃ vs, L2.Vals vs us ∧ ∀ w, RVals K w ys vs
section
variable {K : Frag} {mg : Mg} {x : Str} {y : Val} {ys : List Val} {u : PySem.Value} {us : List PySem.Value} {a : Addr} {od : Option Addr} {n : Nat} {sl : Array (Option PySem.Value)}
theorem kv_int {i : Int} {t : PySem.Tok} : KV K (.int i) (.int i t) := ⟨.int i, ⟨t, rfl⟩, fun _ => rfl⟩
theorem kvs_nil : KVs K [] [] := ⟨[], .nil, fun _ => rfl⟩
theorem kvs_cons (h : KV K y u) (hs : KVs K ys us) : KVs K (y :: ys) (u :: us) := by
  obtain ⟨v, r, q⟩ := h
  obtain ⟨vs, rs, qs⟩ := hs
  exact ⟨v :: vs, .cons r rs, fun w => ⟨v, vs, rfl, q w, qs w⟩⟩
theorem kv_tup {its : Array PySem.Value} (l : K.lookup a = some ⟨.type "tuple", od, .seq its n, sl⟩) (h : KVs K ys its.toList) (hz : its.size ≤ PySem.sizeLine := by exact Nat.le_of_ble_eq_true rfl) : KV K (.tup ys) (.ref a) := by
  obtain ⟨vs, rs, qs⟩ := h
  exact ⟨.ref a, rfl, fun w => ⟨a, vs, rfl, .inr ⟨_, its, n, l, rfl, rfl, hz, rs⟩, qs w⟩⟩
/-- a global name's value -/
structure Cs (K : Frag) (mg : Mg) (x : Str) (y : Val) : Prop where
  ex : ∃ u, mg x = some u ∧ KV K y u
theorem cs_mk (h : mg x = some u) (k : KV K y u) : Cs K mg x y := ⟨⟨u, h, k⟩⟩
end
section
variable {X : Cx} {W : WX} {x : Str} {y : Val} {pos : Pos}
theorem s_cst (c : Cs X.K X.mg x y) (hg : Gl X x := by rfl) (hd : (x == ("__debug__" : Str)) = false := by decide) : PEs X W (.Name x pos) (eC y) := by
  obtain ⟨u, h, v, r, q⟩ := c.ex
  exact s_glob hg h r q hd
end
/-! ### o[k] op= e -/
theorem get_list {X : Cx} : PGet X (rIxL X.K) := by
  intro pins s σ H x y v u Q I rx ry h
  obtain ⟨p, xs, i, z, rfl, rfl, hq, he, q⟩ := h
  cases rx
  obtain ⟨t, rfl⟩ := ry
  obtain ⟨its, r, pl, hz⟩ := I.list hq
  obtain ⟨j, h1, h2, h3, h4, h5⟩ := atI_get he
  obtain ⟨w, ew, rw'⟩ := r.get h2
  have hl := r.length
  have hn := line63
  have fin : EP X pins σ Q w s := ⟨z, H, I, rw', q⟩
  by_cases h0 : 0 ≤ i
  · have hj : i.toNat = j := by
      rw [seqIndex_of h0 h5] at h1
      exact Option.some.inj h1
    exact wpAny_getItem_list pl.isList h0 (by omega) (by rw [hj]; simpa using ew) fin
  · have hj : (i + (its.toArray.size : Int)).toNat = j := by
      rw [seqIndex_neg (by omega) h4] at h1
      rw [List.size_toArray, ← hl]
      exact Option.some.inj h1
    exact wpAny_getItem_list_neg pl.isList (by omega) (by rw [List.size_toArray] <;> omega) (by omega) (by rw [hj]; simpa using ew) fin
def sAugHp (f : F2) (o ix a : E) : S := fun r h => (o r h).then r fun p h1 => match p with
  | .v (.obj m) => (ix r h1).then r fun j h2 => match j with
    | .v (.int j) => match h2[m]? with
      | some (.lst xs) => match L2.atI xs j with
        | some z => (a r h2).then r fun y h3 => match f h3 (.v z) y with
          | some u => match u.keep with
            | some u => match h3[m]? with
              | some (.lst ys) => match L2.ixN ys.length j with
                | some n => .nx r (h3.set m (.lst (ys.set n u)))
                | none => .no
              | _ => .no
            | none => .no
          | none => .no
        | none => .no
      | _ => .no
    | _ => .no
  | _ => .no
section
variable {X : Cx} {W : WX} {w0 : Rw} {M0 : Addr → Prop} {pos p2 : Pos} {a b c : Expr} {fa fb fc : E}
theorem b_augHp {op : Operator} {f : F2} {r2 : R2} (ho : OpR X (PySem.inplaceOp op) r2) (hf : F2Ok X.K X.mg f r2) (hc : PEs X W c fc) (hb : PEs X W b fb) (ha : PEs X W a fa)
    (hst : ∀ ov iv new, PySem.augStore b ov iv new = (do PySem.holding [new, ov, iv] (PySem.setItem ov iv new); PySem.release [new, ov, iv] []; pure .next) := by intros; rfl) :
    PSs' X W w0 M0 (.AugAssign (.Subscript c b p2) op a pos) (sAugHp f fc fb fa) := PS.weak (ps_augS hc hb get_list ha (show PIp X op r2 from ho) set_list hst) fun D σ H ⟨w, r, h, e, R, k⟩ => by
  subst e
  refine ⟨w, r, h, rfl, R.rel, SK.cut R (fun x h1 w1 v1 l1 R1 q1 k1 => ?_) k⟩
  split at k1
  · rename_i m
    refine ⟨w1, r, h1, rfl, R.rel.le l1 R1, SK.cut (R.le' l1 R1) (fun j h2 w2 v2 l2 R2 q2 k2 => ?_) k1⟩
    have R12 := R.le' (l1.trans l2) R2
    split at k2
    · rename_i j
      split at k2
      · rename_i xs hm
        split at k2
        · rename_i z hz
          have e2 : v2 = .int j := q2
          subst e2
          obtain ⟨hk, ev⟩ := (q1.le R1 l2 : RVal X.K w2 (.obj m) v1)
          subst ev
          obtain ⟨ys, ey, qy⟩ := R2.obj m _ hm
          obtain ⟨vz, hvz, qz⟩ := qy.atI hz
          refine ⟨_, ys, j, vz, rfl, rfl, .inl (.inl ey), hvz, w2, r, h2, rfl, R12.rel, SK.cut R12 (fun y h3 w3 v3 l3 R3 q3 k3 => ?_) k2⟩
          split at k3
          · rename_i u hu
            split at k3
            · rename_i u' hu'
              split at k3
              · rename_i zs hm3
                split at k3
                · rename_i n hn
                  have qz3 : RRes X.K w3 w3 (.v z) vz := RVal.le R2 l3 qz
                  refine hf w3 w3 w2 h3 (.v z) y u vz v3 _ R3 qz3 q3 hu fun w4 v4 l4 R4 q4 => ?_
                  obtain ⟨w5, eH, l5, R5, q5⟩ := q4.keep R4 l4 hu'
                  have hk5 : m < w5.n := Nat.lt_of_lt_of_le hk (l3.trans l5).n
                  have eio : w5.io m = w2.io m := (l3.trans l5).io m hk
                  obtain ⟨us, eu, qu⟩ := R5.obj m _ hm3
                  rw [← eH, ← eio]
                  refine ⟨_, us, j, n, rfl, rfl, eu, by rw [← qu.length]; exact hn, ?_⟩
                  exact k3 (w5.updO (w5.io m) _) σ ((R12.le' (l3.trans l5) R5).le' (Le.upd_obj hk5) (R5.upd_obj hm3 (qu.set q5 n)))
                · exact k3.elim
              · exact k3.elim
            · exact k3.elim
          · exact k3.elim
        · exact k2.elim
      · exact k2.elim
    · exact k2.elim
  · exact k1.elim
theorem b_augHpAdd (hc : PEs X W c fc) (hb : PEs X W b fb) (ha : PEs X W a fa) (hst : ∀ ov iv new, PySem.augStore b ov iv new = (do PySem.holding [new, ov, iv] (PySem.setItem ov iv new); PySem.release [new, ov, iv] []; pure .next) := by intros; rfl) :
    PSs' X W w0 M0 (.AugAssign (.Subscript c b p2) .Add a pos) (sAugHp (fI0 fun i j => .int (i + j)) fc fb fa) := b_augHp iop_add (fI0_ok fun _ _ _ => rfl) hc hb ha hst
theorem b_augHpSub (hc : PEs X W c fc) (hb : PEs X W b fb) (ha : PEs X W a fa) (hst : ∀ ov iv new, PySem.augStore b ov iv new = (do PySem.holding [new, ov, iv] (PySem.setItem ov iv new); PySem.release [new, ov, iv] []; pure .next) := by intros; rfl) :
    PSs' X W w0 M0 (.AugAssign (.Subscript c b p2) .Sub a pos) (sAugHp fSub fc fb fa) := b_augHp iop_sub (fI0_ok fun _ _ _ => rfl) hc hb ha hst
end
end SM

/-! SMSlice: slices, ranges, calls without arguments, unpacking of lists. -/
namespace SM
open PySem (Str Expr Stmt Pos Operator CmpOp Scope)
open L2 hiding St tB tAnd tOr tNot iRng1 iRng2 iRng3
/-! ### slices -/
def cutX (xs : List Val) (lo hi : Option Int) : List Val := (xs.drop (HT.sIx xs.length 0 lo)).take (HT.sIx xs.length xs.length hi - HT.sIx xs.length 0 lo)
theorem RVals.cutI {K : Frag} {w : Rw} {xs : List Val} {vs : List V} (q : RVals K w xs vs) (lo hi : Option Int) : RVals K w (cutX xs lo hi) (cutV vs lo hi) := by
  unfold cutX cutV
  rw [q.length]
  exact (q.drop _).take _
theorem cut_whole {xs : List Val} {lo hi : Option Int} (h : HT.sIx xs.length 0 lo = 0 ∧ HT.sIx xs.length xs.length hi = xs.length) : cutX xs lo hi = xs := by
  unfold cutX
  rw [h.1, h.2, List.drop_zero, Nat.sub_zero, List.take_length]
def fCut (h : Heap) (x : RV) (lo hi : Option Int) : Option RV := match x with
  | .v (.str z) => if z.length ≤ line then some (.v (.str (L2.cutS z lo hi))) else none
  | x => match look h x with
    | some (true, xs) => some (.v (.tup (cutX xs lo hi)))
    | some (false, xs) => some (.own (cutX xs lo hi))
    | none => none
/-- a slice's part -/
def ePart : Option E → Env → Heap → EO (Option Int)
  | none => fun _ h => .ok none h
  | some a => fun r h => (a r h).bind fun x h1 => match x with
    | .v (.int i) => .ok (some i) h1
    | _ => .no
def eSl (a : E) (lo hi : Option E) : E := fun r h => (a r h).bind fun x h1 => (ePart lo r h1).bind fun l h2 => (ePart hi r h2).bind fun u h3 => opt (fCut h3 x l u) h3
/-- every so many-th item of a list -/
def pickG {α : Type} (xs : List α) (lo hi st : Option Int) : List α := (PySem.sliceRange (PySem.sliceBounds lo hi st xs.length).1 (PySem.sliceBounds lo hi st xs.length).2.1 (PySem.sliceBounds lo hi st xs.length).2.2).filterMap (xs[·]?)
def fPick (h : Heap) (x : RV) (lo hi : Option Int) (st : Int) : Option RV := match look h x with
  | some (false, xs) => if st ≠ 0 ∧ (pickG xs lo hi (some st)).length ≤ line then some (.own (pickG xs lo hi (some st))) else none
  | _ => none
def eSlSt (a : E) (lo hi : Option E) (st : Int) : E := fun r h => (a r h).bind fun x h1 => (ePart lo r h1).bind fun l h2 => (ePart hi r h2).bind fun u h3 => opt (fPick h3 x l u st) h3
def fRev : F1 := fun h x => match look h x with
  | some (false, xs) => some (.own xs.reverse)
  | _ => none
theorem EO.assoc {α β γ : Type} (o : EO α) (g : α → Heap → EO β) (f : β → Heap → EO γ) : (o.bind g).bind f = o.bind fun x h => (g x h).bind f := by
  cases o <;> rfl
def TOf (K : Frag) (mg : Mg) (W : WX) : Option E → TO
  | none => tNoPart
  | some a => tPart (tE K mg W a)
theorem part_cut {K : Frag} {mg : Mg} {W : WX} {w : Rw} {r : Env} {h : Heap} {σ : L2.St} {Q : VK} {Q' : Option Int → Hp → Prop} {f : Option Int → Heap → EO RV} (R : Rel K mg w r h σ) (c : ∀ o h1 w1, Le w w1 → RHp K mg w1 h1 → EK K mg W w1 σ Q (f o h1) → Q' o w1.H) :
    ∀ lo : Option E, EK K mg W w σ Q ((ePart lo r h).bind f) → TOf K mg W lo σ w.H Q'
  | none, k => c none h w (Le.refl w) R.hp k
  | some a, k => by
    have k : EK K mg W w σ Q (((a r h).bind fun x h1 => match x with
      | .v (.int i) => .ok (some i) h1
      | _ => .no).bind f) := k
    rw [EO.assoc] at k
    refine ⟨w, r, h, rfl, R, EK.cut (fun x h1 w1 v1 l1 R1 q1 k1 => ?_) k⟩
    split at k1
    · rename_i i
      exact ⟨i, q1, c (some i) h1 w1 l1 R1 k1⟩
    · exact k1.elim
abbrev POs (X : Cx) (W : WX) (e : Option Expr) (lo : Option E) : Prop := PO X e (TOf X.K X.mg W lo)
theorem vals_pick {xs : List V} {its : List PySem.Value} (r : Vals xs its) : ∀ ns : List Nat, Vals (ns.filterMap (xs[·]?)) (ns.filterMap (its[·]?))
  | [] => .nil
  | n :: ns => by
    have ih := vals_pick r ns
    cases hx : xs[n]? with
    | none =>
      have hi : its[n]? = none := by
        rw [List.getElem?_eq_none_iff] at hx ⊢
        rw [← r.length]
        exact hx
      rw [List.filterMap_cons, List.filterMap_cons]
      simp only [hx, hi]
      exact ih
    | some v =>
      obtain ⟨u, hu, ru⟩ := r.get hx
      rw [List.filterMap_cons, List.filterMap_cons]
      simp only [hx, hu]
      exact .cons ru ih
theorem RVals.pick {K : Frag} {w : Rw} {xs : List Val} {vs : List V} (q : RVals K w xs vs) : ∀ ns : List Nat, RVals K w (ns.filterMap (xs[·]?)) (ns.filterMap (vs[·]?))
  | [] => rfl
  | n :: ns => by
    have ih := RVals.pick q ns
    cases hx : xs[n]? with
    | none =>
      have hi : vs[n]? = none := by
        rw [List.getElem?_eq_none_iff] at hx ⊢
        rw [← q.length]
        exact hx
      rw [List.filterMap_cons, List.filterMap_cons]
      simp only [hx, hi]
      exact ih
    | some v =>
      obtain ⟨u, hu, ru⟩ := q.get hx
      rw [List.filterMap_cons, List.filterMap_cons]
      simp only [hx, hu]
      exact ⟨u, _, rfl, ru, ih⟩
section
variable {X : Cx} {W : WX} {pos p2 p3 : Pos} {a s : Expr} {lo hi : Option Expr} {fa : E} {fl fu : Option E}
theorem p_none : POs X W none none := po_none
theorem p_some (h : PEs X W a fa) : POs X W (some a) (some fa) := po_some h
theorem s_sl (ha : PEs X W a fa) (hl : POs X W lo fl) (hu : POs X W hi fu) : PEs X W (.Subscript a (.Slice lo hi none p2) pos) (eSl fa fl fu) :=
  PE.weak (pe_slice (sl_list.or (sl_tupA.or sl_str)) ha hl hu) fun σ H Q ⟨w, r, h, e, R, k⟩ => by
    subst e
    refine ⟨w, r, h, rfl, R, EK.cut (fun x h1 w1 v1 l1 R1 q1 k1 => part_cut (R.le l1 R1) (fun l h2 w2 l2 R2 k2 => part_cut (R.le (l1.trans l2) R2) (fun u h3 w3 l3 R3 k3 => ?_) fu k2) fl k1) k⟩
    have q3 := (q1.le R1 l2).le R2 l3
    obtain ⟨z, ez, kz⟩ := opt_cut k3
    unfold fCut at ez
    split at ez
    · rename_i z0
      split at ez
      · rename_i hz
        cases ez
        have e1 : v1 = .str z0 := q3
        subst e1
        exact .inr (.inr ⟨z0, rfl, hz, kz w3 _ (Le.refl w3) R3 rfl⟩)
      · cases ez
    · split at ez
      · rename_i xs hl
        cases ez
        obtain ⟨p, ys, e1, sq, q, ex⟩ := look_tup R3 q3 hl
        subst e1 ex
        refine .inr (.inl ⟨p, ys, rfl, sq, fun hw => ?_, fun _ t ht => kz (w3.newT t _) _ (Le.newT ht) (R3.newT ht) (res_newT R3 ht (q.cutI l u))⟩)
        rw [← q.length] at hw
        rw [cut_whole hw] at kz
        exact kz w3 _ (Le.refl w3) R3 q3
      · rename_i xs hl
        cases ez
        obtain ⟨p, ys, e1, sq, q⟩ := look_lst R3 q3 hl
        subst e1
        exact .inl ⟨p, ys, rfl, sq, fun t ht => kz (w3.newL t _) _ (Le.newL ht R3) (R3.newL ht) (res_newL R3 ht (q.cutI l u))⟩
      · cases ez
theorem pe_sliceSt {te : TE} {tl th ts : TO} (he : PE X a te) (hl : PO X lo tl) (hu : PO X hi th) (hst : PO X (some s) ts) : PE X (.Subscript a (.Slice lo hi (some s) p2) pos) (fun σ H Q => te σ H fun x H1 => tl σ H1 fun l H2 => th σ H2 fun u H3 => ts σ H3 fun c H4 =>
    c ≠ some 0 ∧ ∃ b xs, x = .ref b ∧ SqL X.K H4 b xs ∧ (pickG xs l u c).length ≤ PySem.sizeLine ∧ ∀ p, H4 p = none → Q (.ref p) (upd H4 p (.lst (pickG xs l u c)))) := by
  refine ⟨fun pins s0 σ H Q I h => ?_⟩
  refine PyProof.Rows.Subscript_ (thn (he.run pins s0 σ H _ I h) fun v s1 ⟨x, H1, I1, r1, q1⟩ => ?_)
  refine PySem.wpAny_Slice (thn (hl.run pins s1 σ H1 _ I1 q1) fun vl s2 ⟨l, H2, I2, pl, q2⟩ => thn (hu.run pins s2 σ H2 _ I2 q2) fun vu s3 ⟨u, H3, I3, pu, q3⟩ => thn (hst.run pins s3 σ H3 _ I3 q3) fun vs s4 ⟨c, H4, I4, ps, q4⟩ => ?_)
  obtain ⟨c0, b, xs, ex, hx, hz, q⟩ := q4
  subst ex
  cases r1
  have I5 : Inv X pins σ H4 { s4 with heap := s4.heap.push { cls := .type "slice", data := .fields #[vl, vu, vs] } } := I4.kept (t' := s4.toks) fun b ob q => PySem.Heap.get?_push_of_some _ q
  obtain ⟨its, r, ht, hzz⟩ := I5.list hx
  have hlen := r.length
  refine PyProof.Rows.tail_any (ops := [.ref b, .ref s4.heap.objs.size]) ht.isList.typeIs (PySem.slot_list_getitem.lookup) ?_ (by with_unfolding_all rfl)
  refine PySem.wpAny_getItem_list_slice ht.isList (PySem.Heap.IsSliceOf.new _ vl vu vs) pl pu ps c0 ?_ (by rw [List.size_toArray]; omega)
  have rp : Vals (pickG xs l u c) (PySem.slicePick its.toArray l u c).toList := by
    unfold pickG PySem.slicePick
    rw [List.size_toArray, ← hlen]
    have := vals_pick r (PySem.sliceRange (PySem.sliceBounds l u c xs.length).1 (PySem.sliceBounds l u c xs.length).2.1 (PySem.sliceBounds l u c xs.length).2.2)
    simpa using this
  refine ⟨.ref _, _, I5.laid (t' := s4.toks) (o := .lst (pickG xs l u c)) (fun b ob q => PySem.Heap.get?_push_of_some _ q) (Nat.le_refl _) ?_, rfl, q _ (I5.hok.fresh (Nat.le_refl _))⟩
  refine ⟨hz, (PySem.slicePick its.toArray l u c).toList, 0, rp, ?_⟩
  rw [Array.toArray_toList]
  exact PySem.Heap.get?_push_size _ rfl
theorem s_slSt {c : Int} (ha : PEs X W a fa) (hl : POs X W lo fl) (hu : POs X W hi fu) {j : Nat} : PEs X W (.Subscript a (.Slice lo hi (some (.Constant (.int c) j p3)) p2) pos) (eSlSt fa fl fu c) :=
  PE.weak (pe_sliceSt ha hl hu (po_some pe_int)) fun σ H Q ⟨w, r, h, e, R, k⟩ => by
    subst e
    refine ⟨w, r, h, rfl, R, EK.cut (fun x h1 w1 v1 l1 R1 q1 k1 => part_cut (R.le l1 R1) (fun l h2 w2 l2 R2 k2 => part_cut (R.le (l1.trans l2) R2) (fun u h3 w3 l3 R3 k3 => ?_) fu k2) fl k1) k⟩
    have q3 := (q1.le R1 l2).le R2 l3
    obtain ⟨z, ez, kz⟩ := opt_cut k3
    unfold fPick at ez
    split at ez
    · rename_i xs hl
      split at ez
      · rename_i hc
        cases ez
        obtain ⟨p, ys, e1, sq, q⟩ := look_lst R3 q3 hl
        subst e1
        have ql : (pickG xs l u (some c)).length = (pickG ys l u (some c)).length := by
          unfold pickG
          rw [q.length]
          exact (q.pick _).length
        have qq : RVals X.K w3 (pickG xs l u (some c)) (pickG ys l u (some c)) := by
          unfold pickG
          rw [q.length]
          exact q.pick _
        exact ⟨c, rfl, fun z => hc.1 (Option.some.inj z), p, ys, rfl, sq, by rw [← ql]; exact hc.2, fun t ht => kz (w3.newL t _) _ (Le.newL ht R3) (R3.newL ht) (res_newL R3 ht qq)⟩
      · cases ez
    · cases ez
theorem s_rev {j : Nat} {p4 : Pos} (ha : PEs X W a fa) : PEs X W (.Subscript a (.Slice none none (some (.UnaryOp .USub (.Constant (.int 1) j p4) p3)) p2) pos) (e1 fRev fa) :=
  PE.weak (pe_revL ha) fun σ H Q ⟨w, r, h, e, R, k⟩ => by
    subst e
    refine ⟨w, r, h, rfl, R, EK.cut (fun x h1 w1 v1 l1 R1 q1 k1 => ?_) k⟩
    obtain ⟨z, ez, kz⟩ := opt_cut k1
    unfold fRev at ez
    split at ez
    · rename_i xs hl
      cases ez
      obtain ⟨p, ys, e1, sq, q⟩ := look_lst R1 q1 hl
      subst e1
      exact ⟨p, ys, rfl, sq, fun t ht => kz (w1.newL t _) _ (Le.newL ht R1) (R1.newL ht) (res_newL R1 ht q.reverse)⟩
    · cases ez
end
/-! ### list(range(..)), tuple(range(..)) -/
def eLR (tup : Bool) (a b : E) : E := fun r h => (a r h).bind fun x h1 => (b r h1).bind fun y h2 => match x, y with
  | .v (.int i), .v (.int j) => if -(2 ^ 62) ≤ i ∧ i < 2 ^ 62 ∧ -(2 ^ 62) ≤ j ∧ j < 2 ^ 62 ∧ (j - i).toNat ≤ line then .ok (if tup then .v (.tup (upTo i (j - i).toNat)) else .own (upTo i (j - i).toNat)) h2 else .no
  | _, _ => .no
theorem rv_upTo {K : Frag} {w : Rw} : ∀ (n : Nat) (lo : Int), RVals K w (upTo lo n) ((List.range n).map fun i => V.int (lo + (i : Nat)))
  | 0, lo => by
    unfold upTo
    rfl
  | n + 1, lo => by
    unfold upTo
    rw [List.range_succ_eq_map, List.map_cons, List.map_map]
    refine ⟨_, _, rfl, by rw [show lo + ((0 : Nat) : Int) = lo by omega]; rfl, ?_⟩
    have := rv_upTo (K := K) (w := w) n (lo + 1)
    have e : (fun i : Nat => V.int (lo + 1 + (i : Nat))) = (fun i : Nat => V.int (lo + (i : Nat))) ∘ Nat.succ := by
      funext i
      show V.int _ = V.int _
      congr 1
      show lo + 1 + (i : Int) = lo + ((i + 1 : Nat) : Int)
      omega
    rw [e] at this
    exact this
section
variable {X : Cx} {W : WX} {pos p p1 pos1 : Pos} {a b : Expr} {fa fb : E}
theorem s_listRg2 (hc : X.calm = true) (hgl : Gl X "list") (hml : X.mg "list" = none) (hg : Gl X "range") (hm : X.mg "range" = none) (ha : PEs X W a fa) (hb : PEs X W b fb)
    (na : PySem.starEach [a, b] X.env = (false, PySem.eval a X.env) :: PySem.starEach [b] X.env := by rfl) (nb : PySem.starEach [b] X.env = (false, PySem.eval b X.env) :: PySem.starEach [] X.env := by rfl) (hp : (PySem.backTo pos1 (PySem.starEach [b] X.env)).any (·.1) = false := by rfl)
    (nl : PySem.starEach [.Call (.Name "range" p1) [a, b] [] pos1] X.env = (false, PySem.eval (.Call (.Name "range" p1) [a, b] [] pos1) X.env) :: PySem.starEach [] X.env := by rfl) :
    PEs X W (.Call (.Name "list" p) [.Call (.Name "range" p1) [a, b] [] pos1] [] pos) (eLR false fa fb) := PE.weak (pe_listRg hc hgl hml (prg_2 hg hm ha hb na nb hp) nl) fun σ H Q ⟨w, r, h, e, R, k⟩ => by
  subst e
  refine ⟨w, r, h, rfl, R, EK.cut (fun x h1 w1 v1 l1 R1 q1 k1 => ?_) k⟩
  refine ⟨w1, r, h1, rfl, R.le l1 R1, EK.cut (fun y h2 w2 v2 l2 R2 q2 k2 => ?_) k1⟩
  split at k2
  · rename_i i j
    have e1 : v1 = .int i := q1
    have e2 : v2 = .int j := q2
    subst e1 e2
    split at k2
    · rename_i c
      refine ⟨i, j, rfl, rfl, ⟨c.1, c.2.1, c.2.2.1, c.2.2.2.1, c.2.2.2.2⟩, fun t ht => k2 (w2.newL t _) _ (Le.newL ht R2) (R2.newL ht) (res_newL R2 ht (rv_upTo _ _))⟩
    · exact k2.elim
  · exact k2.elim
theorem s_listRg1 (hc : X.calm = true) (hgl : Gl X "list") (hml : X.mg "list" = none) (hg : Gl X "range") (hm : X.mg "range" = none) (ha : PEs X W a fa)
    (na : PySem.starEach [a] X.env = (false, PySem.eval a X.env) :: PySem.starEach [] X.env := by rfl)
    (nl : PySem.starEach [.Call (.Name "range" p1) [a] [] pos1] X.env = (false, PySem.eval (.Call (.Name "range" p1) [a] [] pos1) X.env) :: PySem.starEach [] X.env := by rfl) :
    PEs X W (.Call (.Name "list" p) [.Call (.Name "range" p1) [a] [] pos1] [] pos) (eLR false (eC (.int 0)) fa) := PE.weak (pe_listRg hc hgl hml (prg_1 hg hm ha na) nl) fun σ H Q ⟨w, r, h, e, R, k⟩ => by
  subst e
  have k : EK X.K X.mg W w σ Q ((fa r h).bind fun y h2 => match (RV.v (.int 0)), y with
    | .v (.int i), .v (.int j) => if -(2 ^ 62) ≤ i ∧ i < 2 ^ 62 ∧ -(2 ^ 62) ≤ j ∧ j < 2 ^ 62 ∧ (j - i).toNat ≤ line then .ok (if false then .v (.tup (upTo i (j - i).toNat)) else .own (upTo i (j - i).toNat)) h2 else .no
    | _, _ => .no) := k
  refine ⟨w, r, h, rfl, R, EK.cut (fun y h2 w2 v2 l2 R2 q2 k2 => ?_) k⟩
  split at k2
  · rename_i i j ei
    cases ei
    have e2 : v2 = .int j := q2
    subst e2
    split at k2
    · rename_i c
      refine ⟨j, rfl, ⟨c.1, c.2.1, c.2.2.1, c.2.2.2.1, c.2.2.2.2⟩, fun t ht => k2 (w2.newL t _) _ (Le.newL ht R2) (R2.newL ht) (res_newL R2 ht (rv_upTo _ _))⟩
    · exact k2.elim
  · exact k2.elim
end
/-! ### range with a step -/
def stepTo (lo c : Int) : Nat → List Val
  | 0 => []
  | n + 1 => .int lo :: stepTo (lo + c) c n
theorem stepTo_len (c : Int) : ∀ (n : Nat) (lo : Int), (stepTo lo c n).length = n
  | 0, _ => rfl
  | n + 1, lo => by
    unfold stepTo
    rw [List.length_cons, stepTo_len c n]
theorem stepTo_get (c : Int) : ∀ (n : Nat) (lo : Int) (i : Nat), i < n → (stepTo lo c n)[i]? = some (.int (lo + (i : Nat) * c))
  | 0, _, _, h => absurd h (Nat.not_lt_zero _)
  | n + 1, lo, 0, _ => by
    unfold stepTo
    simp
  | n + 1, lo, i + 1, h => by
    unfold stepTo
    rw [List.getElem?_cons_succ, stepTo_get c n (lo + c) i (by omega)]
    congr 2
    rw [show ((i + 1 : Nat) : Int) = (i : Int) + 1 by omega, Int.add_mul]
    omega
def iRng3 (a b c : E) : I := fun r h => (a r h).bind fun x h1 => (b r h1).bind fun y h2 => (c r h2).bind fun z h3 => match x, y, z with
  | .v (.int i), .v (.int j), .v (.int k) => if k ≠ 0 ∧ k.natAbs < 1073741824 ∧ PySem.Builtin.Range.small i j k = true ∧ 0 ≤ PySem.Builtin.Range.rangeSize i j k then .ok (stepTo i k (PySem.Builtin.Range.rangeSize i j k).toNat, []) h3 else .no
  | _, _, _ => .no
theorem wk_rangeC {K : Frag} {mg : Mg} {ow : Addr → Prop} {w : Rw} {h : Heap} {lo c : Int} {n : Nat} : Wk K mg ow w h (Itc lo c n) (stepTo lo c n) [] := fun w2 h2 l R2 _ => by
  rw [stepTo_len]
  refine ⟨fun i hi => hi, Nat.le_refl _, fun i x H' hi ⟨e, y⟩ => ?_⟩
  subst y
  exact ⟨w2, _, e.symm, Le.refl w2, R2, stepTo_get c n lo i hi, rfl⟩
section
variable {X : Cx} {W : WX} {pos p : Pos} {tg a b c : Expr} {fa fb fc : E} {k n j : Nat} {x : Str} {fn : Fn} {w0 : Rw} {M0 : Addr → Prop} {es : List Expr} {pos' : Pos}
theorem i_rng3 (hg : Gl X "range") (hm : X.mg "range" = none) (ha : PEs X W a fa) (hb : PEs X W b fb) (hc : PEs X W c fc)
    (hs : PySem.starEach [a, b, c] X.env = (false, PySem.eval a X.env) :: PySem.starEach [b, c] X.env := by rfl) (hs2 : PySem.starEach [b, c] X.env = (false, PySem.eval b X.env) :: PySem.starEach [c] X.env := by rfl) (hs3 : PySem.starEach [c] X.env = (false, PySem.eval c X.env) :: PySem.starEach [] X.env := by rfl)
    (hpl : (PySem.backTo pos (PySem.starEach [b, c] X.env)).any (·.1) = false := by rfl) :
    PIs X W tg (.Call (.Name "range" p) [a, b, c] [] pos) (iRng3 fa fb fc) :=
  PI.weak (pi_range3 hg hm (pa_cons ha (pa_cons hb (pa_cons hc pa_nil hs3) hs2) hs) hs hpl) fun σ H R ⟨w, r, h, e, Rr, k⟩ => by
    subst e
    refine ⟨w, r, h, rfl, Rr, EK.cutI (fun x h1 w1 v1 l1 R1 q1 k1 => ?_) k⟩
    refine ⟨w1, r, h1, rfl, Rr.le l1 R1, EK.cutI (fun y h2 w2 v2 l2 R2 q2 k2 => ?_) (IK.le l1 k1)⟩
    have k2' := IK.le l2 k2
    refine ⟨w2, r, h2, rfl, Rr.le (l1.trans l2) R2, EK.cutI (fun z h3 w3 v3 l3 R3 q3 k3 => ?_) k2'⟩
    split at k3
    · rename_i i j c
      have e1 : v1 = .int i := q1
      have e2 : v2 = .int j := q2
      have e3 : v3 = .int c := q3
      subst e1 e2 e3
      split at k3
      · rename_i cc
        exact ⟨i, j, c, _, rfl, ⟨cc.1, cc.2.1, cc.2.2.1, (Int.toNat_of_nonneg cc.2.2.2).symm⟩, k3 w3 _ l3 R3 wk_rangeC⟩
      · exact k3.elim
    · exact k3.elim
/-! ### f() -/
theorem s_call0 (c : DefOk X.prog X.w X.K X.mg X.base k x 0 fn) (tk : Takes X W) (hr : Room j X.A) (hk : k ≤ j := by decide) (hg : Gl X x := by rfl) (hdb : (x == ("__debug__" : Str)) = false := by decide) : PEs X W (.Call (.Name x p) [] [] pos) (eCall fn aNil) := by
  obtain ⟨f, fd, ps, hm, hkp, b, F⟩ := c.ex
  have base : PE X (.Call (.Name x p) [] [] pos) (tCallSD (spF X.K X.mg 0 fn) [] (WE W) tNil) := by
    refine ⟨fun pins s σ H Q I h => ?_⟩
    refine PySem.wpAny_Call_Name_kw (ld_glob I hg hm ?_ hdb)
    exact PySem.W.callWith_K0 I.kIn hkp (run_fnSD (us := []) F (hr.mono hk) b .nil (passAt tk σ) I .nil h)
  refine PE.weak base fun σ H Q q => ?_
  obtain ⟨w, r, h, e, R, kk⟩ := call_cut (n := 0) an0 σ H Q q
  subst e
  exact kk w [] (Le.refl w) R.hp rfl
/-! ### (a, b, ..) = a list -/
def sUnpL (is : List Nat) (a : E) : S := fun r h => (a r h).then r fun x h1 => match look h1 x with
  | some (false, xs) => if xs.length = is.length then .nx (setAll is xs r) h1 else .no
  | _ => .no
theorem b_unpL {k : Nat} {is : List Nat} (hc : X.calm = true) (ha : PEs X W a fa) (hg : PGs X es (tGs is)) (hn : (PySem.assignEach es X.env).length = is.length := by rfl) (hst : (PySem.assignEach es X.env).findIdx? (·.1) = none := by rfl)
    (hs : PySem.swapsWithSole [.Tuple es k pos'] a pos.line X.env = pure false := by rfl) (hw : PySem.swappedStores [.Tuple es k pos'] a X.env = pure none := by rfl)
    (h1 : (PySem.assignEach [.Tuple es k pos'] X.env).map (·.2) = [PySem.assign (.Tuple es k pos') X.env] := by rfl) : PSs' X W w0 M0 (.Assign [.Tuple es k pos'] a pos) (sUnpL is fa) :=
  PS.weak (ps_asg ha (pg_unl hc hg hn hst) hs hw h1) fun D σ H ⟨w, r, h, e, R, k⟩ => by
    subst e
    refine ⟨w, r, h, rfl, R.rel, SK.cut R (fun x h1 w1 v1 l1 R1 q1 k1 => ?_) k⟩
    split at k1
    · rename_i xs hl
      split at k1
      · rename_i hz
        obtain ⟨a, ys, e1, s, q2⟩ := look_lst R1 q1 hl
        exact ⟨a, ys, e1, s, by rw [← RVals.length q2]; exact hz, by rw [← RVals.length q2]; exact hz, k1 w1 _ ((R.le' l1 R1).setAll q2)⟩
      · exact k1.elim
    · exact k1.elim
end
end SM

/-! SMExt: extend by a list or a tuple. -/
namespace SM
open PySem (Str Expr Stmt Pos Operator CmpOp Scope)
open L2 hiding St tB tAnd tOr tNot iRng1 iRng2 iRng3
open PySem in
open PySem.Spec PySem.AutoSeq1 in
theorem extT_meets (l : PySem.Addr) (xs0 : Array PySem.Value) (n : Nat) (b : PySem.Addr) (ys : Array PySem.Value) (m : Nat) (od : Option PySem.Addr) (sl : Array (Option PySem.Value)) (c0 : ¬(!xs0.isEmpty && Builtin.List.listTooLong (xs0.size + ys.size)) = true) (c1 : xs0.size ≤ sizeLine) (c2 : xs0.size + ys.size ≤ sizeLine + 1) :
    Meets (Builtin.«list.extend» ⟨[.ref l, .ref b], []⟩) (fun _ R s => s.heap.get? l = some { cls := .type "list", dict := none, data := .seq xs0 n, slots := #[] } ∧ s.heap.get? b = some { cls := .type "tuple", dict := od, data := .seq ys m, slots := sl } ∧ R (.ok (.ret Value.none)) { s with heap := s.heap.update l (Obj.mapSeq fun x => x ++ ys), toks := s.toks }) :=
  .of_wp fun prog w A R s h => by
    obtain ⟨hp, g, d, tk, os⟩ := s
    obtain ⟨hl, hb, h⟩ := h
    have f1 := idx_int
    have f2 := sub_tuple_tuple
    have f3 := sub_list_list
    have f4 := sub_tuple_list
    have f5 := sub_list_tuple
    have hz' : (xs0 ++ ys).size ≤ sizeLine + 1 := by
      rw [Array.size_append]
      exact c2
    wp_walk using (wpAny_updateSeq hl rfl (hz := c1) (_hz' := hz')), wpAny_loadPart' hl, wpAny_loadPart' hb
    exact ⟨_, rfl, h⟩
def rExtT (K : Frag) : V → List V → Hp → VK → Prop := fun x vs H Q => ∃ l b xs zs, x = .ref l ∧ vs = [.ref b] ∧ H l = some (.lst xs) ∧ SqT K H b zs ∧ xs.length + zs.length ≤ PySem.sizeLine ∧ Q .non (upd H l (.lst (xs ++ zs)))
theorem mt_extT {X : Cx} : MtM X "list.extend" (rExtT X.K) := by
  intro pins s σ H x vs v us Q I rx rv h
  obtain ⟨l, b, xs, zs, rfl, rfl, hH, hB, hz, q⟩ := h
  cases rx
  obtain ⟨u, rfl, ru⟩ := rv.one
  cases ru
  obtain ⟨z, its, n, r, hl, e⟩ := I.lstM hH
  obtain ⟨its2, r2, ⟨o2, e2, ec, m, ed⟩, hz2⟩ := I.tuple hB
  obtain ⟨oc, od, dd, sl⟩ := o2
  cases ec
  cases ed
  have hl2 := r2.length
  have hsz : its.toArray.size + its2.toArray.size ≤ PySem.sizeLine := by rw [List.size_toArray, List.size_toArray]; omega
  have hlong : ¬ (!its.toArray.isEmpty && PySem.Builtin.List.listTooLong (its.toArray.size + its2.toArray.size)) = true := by
    rw [notLongL hsz, Bool.and_false]
    exact Bool.false_ne_true
  refine PySem.call_meets PySem.F.slot_list_extend ⟨_, e, rfl⟩ PySem.F.entry_list_extend (PySem.F.args_list_extend_2 _ _) (extT_meets l its.toArray n b its2.toArray m od sl hlong (by rw [List.size_toArray]; omega) (by omega)) ⟨e, e2, ?_⟩
  refine ⟨.non, _, I.lset (its' := its ++ its2) hH e (by simp) (r.append r2) ?_, rfl, q⟩
  rw [List.length_append]
  omega
theorem MtM.or {X : Cx} {id : String} {r r' : V → List V → Hp → VK → Prop} (h : MtM X id r) (h' : MtM X id r') : MtM X id (fun x vs H Q => r x vs H Q ∨ r' x vs H Q) := by
  intro pins s σ H x vs v us Q I rx rv q
  rcases q with q | q
  · exact h pins s σ H x vs v us Q I rx rv q
  · exact h' pins s σ H x vs v us Q I rx rv q
/-- a list that we know to be tracked, or a tuple -/
def lookA (h : Heap) (x : RV) : Option (List Val) := match lookL h x with
  | some xs => some xs
  | none => lookT x
def sExtA (i : Nat) (a : E) : S := fun r h => match r[i]? with
  | some (some (.own xs)) => (a r h).then r fun x h1 => match lookA h1 x with
    | some ys => if xs.length + ys.length ≤ line then .nx (r.set i (some (.own (xs ++ ys)))) h1 else .no
    | none => .no
  | _ => .no
section
variable {X : Cx} {W : WX} {w0 : Rw} {M0 : Addr → Prop} {a : Expr} {fa : E}
theorem b_extA (i : Nat) {x : Str} {p1 p2 p3 p4 : Pos} (ha : PEs X W a fa) (hN : X.N[i]? = some x := by rfl) (hv : Vis X.env.scope x := by first | exact Or.inl rfl | exact Or.inr (Or.inl rfl) | exact Or.inr (Or.inr rfl)) (hd : (x == ("__debug__" : Str)) = false := by decide)
    (hcd : (x == ("__classdict__" : Str)) = false := by decide) (hbase : PySem.attributeBase (.Name x p1) "extend" X.env (PySem.eval (.Name x p1) X.env) = PySem.eval (.Name x p1) X.env := by rfl)
    (hfew : ((PySem.backTo p3 (PySem.starEach [a] X.env)).all (fun x => !x.1) && (PySem.backToKw p3 (PySem.keywordEach [] X.env)).all (fun x => x.1.isSome)
      && decide ([a].length + ([] : List PySem.Keyword).length + (if ([] : List PySem.Keyword).isEmpty then 0 else 1) < 30)) = true := by rfl)
    (hline : (p2.endLine == p3.line) = true := by rfl) (hs : PySem.starEach [a] X.env = (false, PySem.eval a X.env) :: PySem.starEach [] X.env := by rfl) (hplain : (PySem.backTo p3 (PySem.starEach [] X.env)).any (·.1) = false := by rfl)
    (hsw : PySem.swapsWith (.Call (.Attribute (.Name x p1) "extend" p2) [a] [] p3) none p4.line X.env = pure false := by rfl) :
    PSs' X W w0 M0 (.Expr (.Call (.Attribute (.Name x p1) "extend" p2) [a] [] p3) p4) (sExtA i fa) :=
  PS.weak (ps_expr (pe_bm PySem.F.plainAttrs_list PySem.F.slot_list_extend PySem.F.type_list_extend (MtM.or mt_extend mt_extT) (pe_var hN hv hd hcd) (pa_cons ha pa_nil hs) hbase hfew hline hs hplain) hsw) fun D σ H ⟨w, r, h, e, R, k⟩ => by
    subst e
    unfold sExtA at k
    split at k
    · rename_i xs hx
      obtain ⟨v, e1, l, ys, e2, s1, s2, s3, s4⟩ := R.rel.sl i _ hx
      subst e2
      refine ⟨.ref l, e1, .inl ⟨rfl, ys, .of s1⟩, w, r, h, rfl, R.rel, SK.cut R (fun x h1 w1 v1 l1 R1 q1 k1 => ?_) k⟩
      have e3 : w1.H l = some (.lst ys) := l1.keep l _ s1 s4
      have s5 := s2.le R.rel.hp l1
      split at k1
      · rename_i zs hy
        split at k1
        · rename_i hz
          unfold lookA at hy
          split at hy
          · rename_i us hu
            cases hy
            obtain ⟨b, us, eb, eb2, qb⟩ := lookL_ok R1 q1 hu
            subst eb
            refine .inl ⟨l, b, ys, us, rfl, rfl, e3, eb2, by rw [← s2.length, ← qb.length]; exact hz, ?_⟩
            exact k1 _ _ ((R.le' l1 R1).upd_own hx e1 (s5.append qb))
          · unfold lookT at hy
            split at hy
            · rename_i ts
              cases hy
              obtain ⟨b, us, eb, eb2, qb⟩ := q1
              subst eb
              refine .inr ⟨l, b, ys, us, rfl, rfl, e3, STup.sqt eb2, by rw [← s2.length, ← qb.length]; exact hz, ?_⟩
              exact k1 _ _ ((R.le' l1 R1).upd_own hx e1 (s5.append qb))
            · cases hy
        · exact k1.elim
      · exact k1.elim
    · exact k.elim
end
end SM

/-! SMRng: list(range(a, b, c)). -/
namespace SM
open PySem (Str Expr Stmt Pos Operator CmpOp Scope)
open L2 hiding St tB tAnd tOr tNot iRng1 iRng2 iRng3
def stV (i k : Int) (n : Nat) : List V := (List.range n).map fun m => V.int (i + (m : Nat) * k)
theorem vals_st {i k : Int} {n : Nat} {acc : Array PySem.Value} (h : PySem.ItemsOf (fun m v => ∃ t, v = .int (i + m * k) t) acc n) : Vals (stV i k n) acc.toList := by
  have e : acc.toList.length = n := by
    rw [Array.length_toList]
    exact h.1
  unfold stV
  rw [← e]
  refine vals_of_get acc.toList _ fun m u hm => ?_
  obtain ⟨t, rfl⟩ := h.2 m u (by rw [← hm, Array.getElem?_toList])
  exact ⟨t, rfl⟩
section
variable {X : Cx} {W : WX} {pos p p1 pos1 : Pos} {a b c : Expr} {fa fb fc : E}
theorem pe_listRg3 {ta : TA} (hcal : X.calm = true) (hgl : Gl X "list") (hml : X.mg "list" = none) (hg : Gl X "range") (hm : X.mg "range" = none) (ha : PA X [a, b, c] ta)
    (hs : PySem.starEach [a, b, c] X.env = (false, PySem.eval a X.env) :: PySem.starEach [b, c] X.env := by rfl) (hpl : (PySem.backTo pos1 (PySem.starEach [b, c] X.env)).any (·.1) = false := by rfl)
    (nl : PySem.starEach [.Call (.Name "range" p1) [a, b, c] [] pos1] X.env = (false, PySem.eval (.Call (.Name "range" p1) [a, b, c] [] pos1) X.env) :: PySem.starEach [] X.env := by rfl) :
    PE X (.Call (.Name "list" p) [.Call (.Name "range" p1) [a, b, c] [] pos1] [] pos) (fun σ H Q => ta σ H fun vs H1 => ∃ (i j k : Int) (n : Nat), vs = [.int i, .int j, .int k] ∧ RgC i j k n ∧ n ≤ PySem.sizeLine ∧ ∀ q, H1 q = none → Q (.ref q) (upd H1 q (.lst (stV i k n)))) := by
  refine ⟨fun pins s σ H Q I h => ?_⟩
  refine PyProof.Rows.Call_ (ld_blt I hgl hml PyProof.Rows.boot_list (PyProof.Rows.callWith_type1 (PyProof.Rows.args_cons ?_ nl) nl))
  refine PyProof.Rows.Call_ (ld_blt I hg hm PyProof.Rows.boot_range (PyProof.Rows.callWith_type1 (thn (ha.run pos1 pins s σ H _ I h) fun us s1 ⟨vs, H1, I1, r1, q1⟩ => ?_) hs hpl))
  obtain ⟨i, j, k, n, e, ⟨c0, c1, c2, c3⟩, hn, q⟩ := q1
  subst e
  cases r1 with
  | cons r rr =>
    cases rr with
    | cons r' rr =>
      cases rr with
      | cons r'' rr =>
        cases rr
        obtain ⟨t, rfl⟩ := r
        obtain ⟨t', rfl⟩ := r'
        obtain ⟨t'', rfl⟩ := r''
        refine PySem.call_range_3 c0 ?_ (.inl (PyProof.noPylong_small c1))
        refine PyProof.Rows.args_nil ?_
        have I2 : Inv X pins σ H1 { s1 with heap := s1.heap.push { cls := .type "range", data := .fields #[.int i t, .int j t', .int k t''] } } := I1.kept (t' := s1.toks) fun b o e => PySem.Heap.get?_push_of_some _ e
        refine PySem.call_list_range (n := n) (I2.ok.hd hcal) (PySem.IsRange.new _ _ _ _ _ _ _) c2 c3 hn fun h' tk acc c' hk e' hi => ?_
        refine ⟨.ref _, upd H1 _ (.lst (stV i k n)), I2.laid hk (Nat.le_refl _) ⟨?_, acc.toList, c', vals_st hi, ?_⟩, rfl, q _ (I2.hok.fresh (Nat.le_refl _))⟩
        · unfold stV
          rw [List.length_map, List.length_range]
          exact hn
        · rw [Array.toArray_toList]
          exact e'
end
def eLR3 (a b c : E) : E := fun r h => (a r h).bind fun x h1 => (b r h1).bind fun y h2 => (c r h2).bind fun z h3 => match x, y, z with
  | .v (.int i), .v (.int j), .v (.int k) => if k ≠ 0 ∧ k.natAbs < 1073741824 ∧ PySem.Builtin.Range.small i j k = true ∧ 0 ≤ PySem.Builtin.Range.rangeSize i j k ∧ (PySem.Builtin.Range.rangeSize i j k).toNat ≤ line then .ok (.own (stepTo i k (PySem.Builtin.Range.rangeSize i j k).toNat)) h3 else .no
  | _, _, _ => .no
theorem rv_step {K : Frag} {w : Rw} (c : Int) : ∀ (n : Nat) (lo : Int), RVals K w (stepTo lo c n) (stV lo c n)
  | 0, lo => by
    unfold stepTo
    rfl
  | n + 1, lo => by
    unfold stepTo stV
    rw [List.range_succ_eq_map, List.map_cons, List.map_map]
    refine ⟨_, _, rfl, by rw [show lo + ((0 : Nat) : Int) * c = lo by rw [show ((0 : Nat) : Int) = 0 from rfl, Int.zero_mul, Int.add_zero]]; rfl, ?_⟩
    have := rv_step (K := K) (w := w) c n (lo + c)
    unfold stV at this
    have e : (fun i : Nat => V.int (lo + c + (i : Nat) * c)) = (fun i : Nat => V.int (lo + (i : Nat) * c)) ∘ Nat.succ := by
      funext i
      show V.int _ = V.int _
      congr 1
      show lo + c + (i : Int) * c = lo + ((i + 1 : Nat) : Int) * c
      rw [show ((i + 1 : Nat) : Int) = (i : Int) + 1 by omega, Int.add_mul]
      omega
    rw [e] at this
    exact this
section
variable {X : Cx} {W : WX} {pos p p1 pos1 : Pos} {a b c : Expr} {fa fb fc : E}
theorem s_listRg3 (hcal : X.calm = true) (hgl : Gl X "list") (hml : X.mg "list" = none) (hg : Gl X "range") (hm : X.mg "range" = none) (ha : PEs X W a fa) (hb : PEs X W b fb) (hc : PEs X W c fc)
    (hs : PySem.starEach [a, b, c] X.env = (false, PySem.eval a X.env) :: PySem.starEach [b, c] X.env := by rfl) (hs2 : PySem.starEach [b, c] X.env = (false, PySem.eval b X.env) :: PySem.starEach [c] X.env := by rfl) (hs3 : PySem.starEach [c] X.env = (false, PySem.eval c X.env) :: PySem.starEach [] X.env := by rfl)
    (hpl : (PySem.backTo pos1 (PySem.starEach [b, c] X.env)).any (·.1) = false := by rfl)
    (nl : PySem.starEach [.Call (.Name "range" p1) [a, b, c] [] pos1] X.env = (false, PySem.eval (.Call (.Name "range" p1) [a, b, c] [] pos1) X.env) :: PySem.starEach [] X.env := by rfl) :
    PEs X W (.Call (.Name "list" p) [.Call (.Name "range" p1) [a, b, c] [] pos1] [] pos) (eLR3 fa fb fc) :=
  PE.weak (pe_listRg3 hcal hgl hml hg hm (pa_cons ha (pa_cons hb (pa_cons hc pa_nil hs3) hs2) hs) hs hpl nl) fun σ H Q ⟨w, r, h, e, R, k⟩ => by
    subst e
    refine ⟨w, r, h, rfl, R, EK.cut (fun x h1 w1 v1 l1 R1 q1 k1 => ?_) k⟩
    refine ⟨w1, r, h1, rfl, R.le l1 R1, EK.cut (fun y h2 w2 v2 l2 R2 q2 k2 => ?_) k1⟩
    refine ⟨w2, r, h2, rfl, R.le (l1.trans l2) R2, EK.cut (fun z h3 w3 v3 l3 R3 q3 k3 => ?_) k2⟩
    split at k3
    · rename_i i j c
      have e1 : v1 = .int i := q1
      have e2 : v2 = .int j := q2
      have e3 : v3 = .int c := q3
      subst e1 e2 e3
      split at k3
      · rename_i cc
        exact ⟨i, j, c, _, rfl, ⟨cc.1, cc.2.1, cc.2.2.1, (Int.toNat_of_nonneg cc.2.2.2.1).symm⟩, cc.2.2.2.2, fun t ht => k3 (w3.newL t _) _ (Le.newL ht R3) (R3.newL ht) (res_newL R3 ht (rv_step _ _ _))⟩
      · exact k3.elim
    · exact k3.elim
end
end SM

/-! SMSetSl: xs[a:b] = ys. -/
namespace SM
open PySem (Str Expr Stmt Pos Operator CmpOp Scope)
open L2 hiding St tB tAnd tOr tNot iRng1 iRng2 iRng3
/-- a list other than one that is only read -/
def lookN (h : Heap) : RV → Option (List Val)
  | .v (.ro vs) => some vs
  | .own vs => some vs
  | .v (.obj n) => match h[n]? with
    | some (.lst vs) => some vs
    | _ => none
  | _ => none
def sSetSl (i : Nat) (lo hi a : E) : S := fun r h => (a r h).then r fun x h1 => match r[i]? with
  | some (some (.own xs)) => (lo r h1).then r fun l h2 => match l with
    | .v (.int l) => (hi r h2).then r fun u h3 => match u with
      | .v (.int u) => match lookN h3 x with
        | some ys => if 0 ≤ l ∧ l ≤ u ∧ u ≤ xs.length ∧ xs.length + ys.length ≤ line then .nx (r.set i (some (.own (xs.take l.toNat ++ ys ++ xs.drop u.toNat)))) h3 else .no
        | none => .no
      | _ => .no
    | _ => .no
  | _ => .no
section
variable {X : Cx} {W : WX} {w0 : Rw} {M0 : Addr → Prop} {pos p1 p2 p3 : Pos} {a o lo hi : Expr} {fa fl fu : E}
theorem pg_slc {to : TE} {tl th : TO} (ho : PE X o to) (hl : PO X (some lo) tl) (hh : PO X (some hi) th)
    (hg : ∀ v, PySem.assign (.Subscript o (.Slice (some lo) (some hi) none p3) p2) X.env v = (do
      let ov ← PySem.holding [v] (PySem.eval o X.env)
      let iv ← PySem.holding [v, ov] (PySem.eval (.Slice (some lo) (some hi) none p3) X.env)
      PySem.standAt p2
      PySem.holding [v, ov, iv] (PySem.setItem ov iv v)
      PySem.release [iv, v, ov] []) := by intro _; rfl) :
    PG X (.Subscript o (.Slice (some lo) (some hi) none p3) p2) (fun v σ H Q => to σ H fun x H1 => tl σ H1 fun l H2 => th σ H2 fun u H3 => ∃ p b xs ys a c, x = .ref p ∧ v = .ref b ∧ l = some a ∧ u = some c ∧ H3 p = some (.lst xs) ∧ H3 b = some (.lst ys) ∧ p ≠ b ∧ 0 ≤ a ∧ a ≤ c ∧ c ≤ xs.length ∧ xs.length + ys.length ≤ PySem.sizeLine ∧ Q σ (upd H3 p (.lst (xs.take a.toNat ++ ys ++ xs.drop c.toNat)))) := by
  refine ⟨fun pins s σ H v u Q I r h => ?_⟩
  rw [hg]
  refine PySem.wpAny_bind (PySem.wpAny_holding (thn (ho.run pins s σ H _ I h) fun ov s1 ⟨x, H1, I1, r1, q1⟩ => ?_))
  refine PySem.wpAny_bind (PySem.wpAny_holding (PySem.wpAny_Slice (thn (hl.run pins s1 σ H1 _ I1 q1) fun vl s2 ⟨l, H2, I2, pl, q2⟩ => thn (hh.run pins s2 σ H2 _ I2 q2) fun vu s3 ⟨u', H3, I3, pu, q3⟩ => ?_)))
  obtain ⟨p, b, xs, ys, a, c, e1, e2, e3, e4, hp, hb, hne, h0, hac, hc, hz, q⟩ := q3
  subst e1 e2 e3 e4
  cases r1
  cases r
  rw [PySem.evalPart_none]
  refine PySem.wpAny_pure ?_
  have I4 : Inv X pins σ H3 { s3 with heap := s3.heap.push { cls := .type "slice", data := .fields #[vl, vu, .none] } } := I3.kept (t' := s3.toks) fun b ob q => PySem.Heap.get?_push_of_some _ q
  have ra : RelV (.int a) vl := by
    cases pl with
    | int i t => exact ⟨t, rfl⟩
  have rc : RelV (.int c) vu := by
    cases pu with
    | int i t => exact ⟨t, rfl⟩
  refine PySem.wpAny_bind (PySem.wpAny_standAt (PySem.wpAny_bind (PySem.wpAny_holding (set_slice I4 hp hb hne (PySem.Heap.IsSliceOf.new ..) ra rc h0 hac hc hz fun s5 I5 => ?_))))
  exact PySem.wpAny_release ⟨σ, _, I5, q⟩
theorem lookN_ok {K : Frag} {mg : Mg} {w w0 : Rw} {h : Heap} {x : RV} {v : V} {xs : List Val} (R : RHp K mg w h) (q : RRes K w0 w x v) (e : lookN h x = some xs) {l : Addr} {o : HO} (hl : w0.H l = some o) (hP : w.P l) (hu : w.out l) : ∃ a ys, v = .ref a ∧ w.H a = some (.lst ys) ∧ RVals K w xs ys ∧ l ≠ a := by
  cases x with
  | own vs =>
    cases e
    obtain ⟨a, ys, e1, e0, e2, q, _, _⟩ := q
    exact ⟨a, ys, e1, e2, q, ne_of_none hl e0⟩
  | view vs => cases e
  | v y =>
    cases y with
    | ro vs =>
      cases e
      obtain ⟨a, ys, e1, s, q⟩ := q
      exact ⟨a, ys, e1, s.1, q, fun z => s.2 (z ▸ hP)⟩
    | obj n =>
      obtain ⟨hk, e1⟩ := q
      have e : (match h[n]? with
        | some (.lst vs) => some vs
        | _ => none) = some xs := e
      split at e
      · rename_i vs hv
        cases e
        obtain ⟨ys, e2, q⟩ := R.obj n _ hv
        exact ⟨_, ys, e1, e2, q, fun z => hu n hk z.symm⟩
      · cases e
    | _ => cases e
theorem b_setSl (i : Nat) {x : Str} (ha : PEs X W a fa) (hl : PEs X W lo fl) (hh : PEs X W hi fu) (hN : X.N[i]? = some x := by rfl) (hv : Vis X.env.scope x := by first | exact Or.inl rfl | exact Or.inr (Or.inl rfl) | exact Or.inr (Or.inr rfl)) (hd : (x == ("__debug__" : Str)) = false := by decide)
    (hcd : (x == ("__classdict__" : Str)) = false := by decide)
    (hs : PySem.swapsWithSole [.Subscript (.Name x p1) (.Slice (some lo) (some hi) none p3) p2] a pos.line X.env = pure false := by rfl) (hw : PySem.swappedStores [.Subscript (.Name x p1) (.Slice (some lo) (some hi) none p3) p2] a X.env = pure none := by rfl)
    (h1 : (PySem.assignEach [.Subscript (.Name x p1) (.Slice (some lo) (some hi) none p3) p2] X.env).map (·.2) = [PySem.assign (.Subscript (.Name x p1) (.Slice (some lo) (some hi) none p3) p2) X.env] := by rfl)
    (hg : ∀ v, PySem.assign (.Subscript (.Name x p1) (.Slice (some lo) (some hi) none p3) p2) X.env v = (do
      let ov ← PySem.holding [v] (PySem.eval (.Name x p1) X.env)
      let iv ← PySem.holding [v, ov] (PySem.eval (.Slice (some lo) (some hi) none p3) X.env)
      PySem.standAt p2
      PySem.holding [v, ov, iv] (PySem.setItem ov iv v)
      PySem.release [iv, v, ov] []) := by intro _; rfl) :
    PSs' X W w0 M0 (.Assign [.Subscript (.Name x p1) (.Slice (some lo) (some hi) none p3) p2] a pos) (sSetSl i fl fu fa) :=
  PS.weak (ps_asg ha (pg_slc (pe_var hN hv hd hcd) (po_some hl) (po_some hh) hg) hs hw h1) fun D σ H ⟨w, r, h, e, R, k⟩ => by
    subst e
    refine ⟨w, r, h, rfl, R.rel, SK.cut R (fun x h1 w1 v1 l1 R1 q1 k1 => ?_) k⟩
    split at k1
    · rename_i xs hx
      obtain ⟨v, e1, l, ys, e2, s1, s2, s3, s4⟩ := R.rel.sl i _ hx
      subst e2
      refine ⟨.ref l, e1, w1, r, h1, rfl, R.rel.le l1 R1, SK.cut (R.le' l1 R1) (fun lv h2 w2 v2 l2 R2 q2 k2 => ?_) k1⟩
      split at k2
      · rename_i lo
        refine ⟨lo, q2, w2, r, h2, rfl, R.rel.le (l1.trans l2) R2, SK.cut (R.le' (l1.trans l2) R2) (fun uv h3 w3 v3 l3 R3 q3 k3 => ?_) k2⟩
        split at k3
        · rename_i hi
          refine ⟨hi, q3, ?_⟩
          split at k3
          · rename_i zs hz
            split at k3
            · rename_i hc
              have l13 := (l1.trans l2).trans l3
              have q13 := (q1.le R1 l2).le R2 l3
              have s5 := s2.le R.rel.hp l13
              have e3 := l13.keep l _ s1 s4
              obtain ⟨b, us, eb, eb2, qb, hne⟩ := lookN_ok R3 q13 hz s1 ((l13.P l _ s1).mpr s3) (l13.out s1 s4)
              subst eb
              have hlen := s5.length
              have hlen2 := qb.length
              refine ⟨l, b, ys, us, lo, hi, rfl, rfl, rfl, rfl, e3, eb2, hne, hc.1, hc.2.1, by rw [← hlen]; exact hc.2.2.1, by rw [← hlen, ← hlen2]; exact hc.2.2.2, ?_⟩
              exact k3 _ _ ((R.le' l13 R3).upd_own hx e1 (((s5.take _).append qb).append (s5.drop _)))
            · exact k3.elim
          · exact k3.elim
        · exact k3.elim
      · exact k2.elim
    · exact k1.elim
end
end SM

/-! SMCalc: working the machine by hand: ends of calls, loops by an invariant, comprehensions, equality of data, numbers of bits. -/
namespace SM
open PySem (Str PyData)
/-! ### the end of a call -/
theorem fin_len {h h' : Heap} {x : RV} (e : h'.length = h.length) : fin h (.rt x h') = .ok x h' := by
  unfold fin
  dsimp only
  split
  · rw [← e, List.take_length]
  · rfl
theorem fin_lenN {h h' : Heap} {r : Env} (e : h'.length = h.length) : fin h (.nx r h') = .ok (.v .none) h' := by
  unfold fin
  dsimp only
  split
  · rw [← e, List.take_length]
  · rfl
theorem fin_self {h : Heap} {x : RV} : fin h (.rt x h) = .ok x h := fin_len rfl
theorem fin_selfN {h : Heap} {r : Env} : fin h (.nx r h) = .ok (.v .none) h := fin_lenN rfl
theorem shr_app {h g new : Heap} (e : g.length = h.length) (u : ∀ i o, i < h.length → g[i]? = some o → h[i]? = some o ∨ o.under h.length) : Shr h (g ++ new) := by
  refine ⟨by rw [List.length_append]; omega, fun i o hi q => ?_⟩
  rw [List.getElem?_append_left (by omega)] at q
  exact u i o hi q
theorem fin_app {h g new : Heap} {x : RV} (e : g.length = h.length) (u : ∀ i o, i < h.length → g[i]? = some o → h[i]? = some o ∨ o.under h.length) (hx : x.under h.length) : fin h (.rt x (g ++ new)) = .ok x g := by
  unfold fin
  dsimp only
  rw [if_pos ⟨shr_app e u, hx⟩, ← e, List.take_left]
theorem fin_appN {h g new : Heap} {r : Env} (e : g.length = h.length) (u : ∀ i o, i < h.length → g[i]? = some o → h[i]? = some o ∨ o.under h.length) : fin h (.nx r (g ++ new)) = .ok (.v .none) g := by
  unfold fin
  dsimp only
  rw [if_pos (shr_app e u), ← e, List.take_left]
theorem fin_new {h new : Heap} {x : RV} (hx : x.under h.length) : fin h (.rt x (h ++ new)) = .ok x h := fin_app rfl (fun _ _ _ q => .inl q) hx
theorem fin_newN {h new : Heap} {r : Env} : fin h (.nx r (h ++ new)) = .ok (.v .none) h := fin_appN rfl (fun _ _ _ q => .inl q)
/-! ### loops -/
theorem Same.refl (dep : List Nat) (h : Heap) : Same dep h h := fun _ _ => rfl
theorem chkS_of {dep : List Nat} {h0 h : Heap} {k : SO} (s : Same dep h0 h) : chkS dep h0 h k = k := by
  cases dep with
  | nil => rfl
  | cons n ns => exact if_pos s
theorem chkE_of {α : Type} {dep : List Nat} {h0 h : Heap} {k : EO α} (s : Same dep h0 h) : chkE dep h0 h k = k := by
  cases dep with
  | nil => rfl
  | cons n ns => exact if_pos s
/-- the loop runs through -/
theorem forL_ok {g : Tg} {b : S} {dep : List Nat} {h0 : Heap} {P : Nat → Env → Heap → Prop} (hs : ∀ i r h, P i r h → Same dep h0 h) : ∀ (xs : List Val) (i : Nat) (r : Env) (h : Heap), P i r h →
    (∀ (k : Nat) (x : Val) (r : Env) (h : Heap), xs[k]? = some x → P (i + k) r h → ∃ r1, g.put x r = some r1 ∧ ∃ r2 h2, (b r1 h = .nx r2 h2 ∨ b r1 h = .ct r2 h2) ∧ P (i + k + 1) r2 h2) →
    ∃ r2 h2, forL g b dep h0 xs r h = .nx r2 h2 ∧ P (i + xs.length) r2 h2
  | [], i, r, h, p, _ => ⟨r, h, chkS_of (hs i r h p), p⟩
  | x :: xs, i, r, h, p, st => by
    obtain ⟨r1, e1, r2, h2, eb, p2⟩ := st 0 x r h rfl p
    obtain ⟨r3, h3, e3, p3⟩ := forL_ok hs xs (i + 1) r2 h2 p2 fun k y r h hk q => by
      have := st (k + 1) y r h hk (by rw [show i + (k + 1) = i + 1 + k by omega]; exact q)
      rw [show i + (k + 1) = i + 1 + k by omega] at this
      exact this
    refine ⟨r3, h3, ?_, by rw [List.length_cons, show i + (xs.length + 1) = i + 1 + xs.length by omega]; exact p3⟩
    show chkS dep h0 h (match g.put x r with
      | some r1 => (b r1 h).turn (forL g b dep h0 xs)
      | none => .no) = _
    rw [chkS_of (hs i r h p), e1]
    show (b r1 h).turn _ = _
    rcases eb with eb | eb
    · rw [eb]; exact e3
    · rw [eb]; exact e3
/-- .. from its first turn on, nothing of the heap stands behind the items -/
theorem for_ok {g : Tg} {it : I} {b : S} {r : Env} {h h1 : Heap} {xs : List Val} (P : Nat → Env → Heap → Prop) (hi : it r h = .ok (xs, []) h1) (p : P 0 r h1)
    (st : ∀ (k : Nat) (x : Val) (r : Env) (h : Heap), xs[k]? = some x → P k r h → ∃ r1, g.put x r = some r1 ∧ ∃ r2 h2, (b r1 h = .nx r2 h2 ∨ b r1 h = .ct r2 h2) ∧ P (k + 1) r2 h2) :
    ∃ r2 h2, sFor g it b r h = .nx r2 h2 ∧ P xs.length r2 h2 := by
  obtain ⟨r2, h2, e, p2⟩ := forL_ok (dep := []) (h0 := h1) (g := g) (b := b) (P := P) (fun _ _ _ _ _ hn => by cases hn) xs 0 r h1 p (by simpa using st)
  refine ⟨r2, h2, ?_, by simpa using p2⟩
  unfold sFor
  rw [hi]
  exact e
/-- a comprehension of all items -/
theorem lcGo_ok {g : Tg} {e : E} {r : Env} {dep : List Nat} {h0 : Heap} {P : Nat → List Val → Heap → Prop} (hs : ∀ i acc h, P i acc h → Same dep h0 h) : ∀ (xs : List Val) (i : Nat) (acc : List Val) (h : Heap), P i acc h →
    (∀ (k : Nat) (x : Val) (acc : List Val) (h : Heap), xs[k]? = some x → P (i + k) acc h → ∃ r1, g.put x r = some r1 ∧ ∃ y h2 z, e r1 h = .ok y h2 ∧ y.keep = some z ∧ P (i + k + 1) (acc ++ [z]) h2) →
    ∃ acc2 h2, lcGo g tYes e r dep h0 xs acc h = .ok (.own acc2) h2 ∧ P (i + xs.length) acc2 h2
  | [], i, acc, h, p, _ => ⟨acc, h, chkE_of (hs i acc h p), p⟩
  | x :: xs, i, acc, h, p, st => by
    obtain ⟨r1, e1, y, h2, z, eb, ek, p2⟩ := st 0 x acc h rfl p
    obtain ⟨acc3, h3, e3, p3⟩ := lcGo_ok hs xs (i + 1) (acc ++ [z]) h2 p2 fun k y acc h hk q => by
      have := st (k + 1) y acc h hk (by rw [show i + (k + 1) = i + 1 + k by omega]; exact q)
      rw [show i + (k + 1) = i + 1 + k by omega] at this
      exact this
    refine ⟨acc3, h3, ?_, by rw [List.length_cons, show i + (xs.length + 1) = i + 1 + xs.length by omega]; exact p3⟩
    show chkE dep h0 h _ = _
    rw [chkE_of (hs i acc h p), e1]
    show (match e r1 h with
      | .ok y h2 => match y.keep with
        | some z => lcGo g tYes e r dep h0 xs (acc ++ [z]) h2
        | none => .no
      | _ => .no) = _
    rw [eb]
    show (match y.keep with
        | some z => lcGo g tYes e r dep h0 xs (acc ++ [z]) h2
        | none => .no) = _
    rw [ek]
    exact e3
theorem lc_ok {own : List Nat} {g : Tg} {it : I} {e : E} {r : Env} {h h1 : Heap} {xs : List Val} {dep : List Nat} (P : Nat → List Val → Heap → Prop) (hi : it r h = .ok (xs, dep) h1) (hz : xs.length ≤ line) (hs : ∀ i acc h, P i acc h → Same dep h1 h) (p : P 0 [] h1)
    (st : ∀ (k : Nat) (x : Val) (acc : List Val) (h : Heap), xs[k]? = some x → P k acc h → ∃ r1, g.put x (wipeE r own) = some r1 ∧ ∃ y h2 z, e r1 h = .ok y h2 ∧ y.keep = some z ∧ P (k + 1) (acc ++ [z]) h2) :
    ∃ acc2 h2, eLc own g it tYes e r h = .ok (.own acc2) h2 ∧ P xs.length acc2 h2 := by
  obtain ⟨acc2, h2, q, p2⟩ := lcGo_ok (g := g) (e := e) (r := wipeE r own) (P := P) hs xs 0 [] h1 p (by simpa using st)
  refine ⟨acc2, h2, ?_, by simpa using p2⟩
  unfold eLc
  rw [hi]
  exact (if_pos hz).trans q
/-- .. whose step is a function of the item -/
theorem lc_map {own : List Nat} {g : Tg} {it : I} {e : E} {r : Env} {h h1 : Heap} {xs : List Val} {dep : List Nat} (F : Val → Val) (hi : it r h = .ok (xs, dep) h1) (hz : xs.length ≤ line)
    (st : ∀ x, x ∈ xs → ∃ r1, g.put x (wipeE r own) = some r1 ∧ e r1 h1 = .ok (.v (F x)) h1) : eLc own g it tYes e r h = .ok (.own (xs.map F)) h1 := by
  obtain ⟨acc, h2, q, p1, p2⟩ := lc_ok (own := own) (g := g) (e := e) (P := fun k acc h => acc = (xs.take k).map F ∧ h = h1) hi hz (fun i acc h p => by rw [p.2]; exact Same.refl _ _) ⟨rfl, rfl⟩ fun k x acc h hk ⟨p1, p2⟩ => by
    subst p1 p2
    obtain ⟨r1, e1, e2⟩ := st x (List.mem_of_getElem? hk)
    refine ⟨r1, e1, _, _, _, e2, rfl, ?_, rfl⟩
    rw [List.take_add_one, hk, List.map_append]
    rfl
  rw [q, p1, p2, List.take_length]
/-! ### lists of numbers -/
abbrev vInts (ns : List Int) : List Val := ns.map .int
abbrev vNats (ns : List Nat) : List Val := ns.map fun n : Nat => Val.int (n : Int)
abbrev dInts (ns : List Int) : List PyData := ns.map .int
theorem toDs_ints : ∀ ns : List Int, toDs (vInts ns) = some (dInts ns)
  | [] => by unfold toDs; rfl
  | n :: ns => by
    show toDs (.int n :: vInts ns) = _
    unfold toDs
    rw [toDs_ints ns]
    unfold toD
    rfl
theorem lay_ints : ∀ ns : List Int, PyData.canLayAll0 (dInts ns) = true
  | [] => by unfold PyData.canLayAll0; rfl
  | n :: ns => by
    show PyData.canLayAll0 (.int n :: dInts ns) = true
    unfold PyData.canLayAll0
    rw [lay_ints ns]
    unfold PyData.canLay0
    rfl
theorem eqv_ints : ∀ ns ms : List Int, PyData.eqvAll (dInts ns) (dInts ms) = decide (ns = ms)
  | [], [] => by unfold PyData.eqvAll; simp
  | [], _ :: _ => by
    show PyData.eqvAll [] (.int _ :: _) = _
    unfold PyData.eqvAll; simp
  | _ :: _, [] => by
    show PyData.eqvAll (.int _ :: _) [] = _
    unfold PyData.eqvAll; simp
  | n :: ns, m :: ms => by
    show PyData.eqvAll (.int n :: dInts ns) (.int m :: dInts ms) = _
    unfold PyData.eqvAll
    rw [eqv_ints ns ms]
    unfold PyData.eqv
    by_cases h : n = m
    · subst h; simp
    · simp [h]
theorem depth_ints : ∀ ns : List Int, PyData.depthAll (dInts ns) = 0
  | [] => by unfold PyData.depthAll; rfl
  | n :: ns => by
    show PyData.depthAll (.int n :: dInts ns) = 0
    unfold PyData.depthAll
    rw [depth_ints ns]
    unfold PyData.depth
    rfl
theorem shaped_tup (ns : List Int) : PySem.SeqAt.shaped (.tuple (dInts ns)) = true := by
  unfold PySem.SeqAt.shaped PyData.canLay0 PyData.depth
  rw [lay_ints, depth_ints]
  rfl
theorem shaped_lst (ns : List Int) : PySem.SeqAt.shaped (.list (dInts ns)) = true := by
  unfold PySem.SeqAt.shaped PyData.canLay0 PyData.depth
  rw [lay_ints, depth_ints]
  rfl
end SM
namespace SM
open PySem (Str PyData)
/-! ### operations, one by one -/
section
variable {h : Heap} {a b : Int} {n : Nat} {xs ys : List Val} {x : Val}
theorem add_ii : fAdd h (.v (.int a)) (.v (.int b)) = some (.v (.int (a + b))) := (Eq.refl _).trans (Eq.refl _)
theorem sub_ii : fSub h (.v (.int a)) (.v (.int b)) = some (.v (.int (a - b))) := (Eq.refl _).trans (Eq.refl _)
theorem and_ii : fAnd h (.v (.int a)) (.v (.int b)) = some (.v (.int (PySem.Builtin.bitAnd a b))) := (Eq.refl _).trans (Eq.refl _)
theorem or_ii : fOr h (.v (.int a)) (.v (.int b)) = some (.v (.int (PySem.Builtin.bitOr a b))) := (Eq.refl _).trans (Eq.refl _)
theorem xor_ii : fXor h (.v (.int a)) (.v (.int b)) = some (.v (.int (PySem.Builtin.bitXor a b))) := (Eq.refl _).trans (Eq.refl _)
theorem lt_ii : fLt h (.v (.int a)) (.v (.int b)) = some (.v (.bool (decide (a < b)))) := (Eq.refl _).trans (Eq.refl _)
theorem le_ii : fLe h (.v (.int a)) (.v (.int b)) = some (.v (.bool (decide (a ≤ b)))) := (Eq.refl _).trans (Eq.refl _)
theorem gt_ii : fGt h (.v (.int a)) (.v (.int b)) = some (.v (.bool (decide (b < a)))) := (Eq.refl _).trans (Eq.refl _)
theorem ge_ii : fGe h (.v (.int a)) (.v (.int b)) = some (.v (.bool (decide (b ≤ a)))) := (Eq.refl _).trans (Eq.refl _)
theorem max_ii : fMax h (.v (.int a)) (.v (.int b)) = some (.v (.int (if b > a then b else a))) := (Eq.refl _).trans (Eq.refl _)
theorem min_ii : fMin h (.v (.int a)) (.v (.int b)) = some (.v (.int (if b < a then b else a))) := (Eq.refl _).trans (Eq.refl _)
theorem mul_ii (c : CMul a b) : fMul h (.v (.int a)) (.v (.int b)) = some (.v (.int (a * b))) := (if_pos c).trans (Eq.refl _)
theorem mod_ii (c : 0 < b) : fMod h (.v (.int a)) (.v (.int b)) = some (.v (.int (a % b))) := (if_pos c).trans (Eq.refl _)
theorem div_ii (c : 0 < b) (c2 : b.natAbs.log2 < 9000) : fDiv h (.v (.int a)) (.v (.int b)) = some (.v (.int (a / b))) := (if_pos ⟨c, c2⟩).trans (Eq.refl _)
theorem shr_ii (c : 0 ≤ b) : fShr h (.v (.int a)) (.v (.int b)) = some (.v (.int (a / 2 ^ b.toNat))) := (if_pos c).trans (Eq.refl _)
theorem shl_ii (c : 0 ≤ b) (c2 : (PySem.Builtin.Int.intBits a : Int) + b ≤ 2 ^ 27) : fShl h (.v (.int a)) (.v (.int b)) = some (.v (.int (a * 2 ^ b.toNat))) := (if_pos ⟨c, c2⟩).trans (Eq.refl _)
theorem neg_i : fNeg h (.v (.int a)) = some (.v (.int (-a))) := (Eq.refl _).trans (Eq.refl _)
theorem abs_i : fAbs h (.v (.int a)) = some (.v (.int (if a < 0 then -a else a))) := (Eq.refl _).trans (Eq.refl _)
theorem int_i : fInt h (.v (.int a)) = some (.v (.int a)) := (Eq.refl _).trans (Eq.refl _)
theorem eq_ii : fEq false h (.v (.int a)) (.v (.int b)) = some (.v (.bool (decide (a = b)))) := by
  unfold fEq toDR toD
  show (if PySem.SeqAt.shaped (.int a) = true ∧ PySem.SeqAt.shaped (.int b) = true then _ else _) = _
  rw [if_pos ⟨by unfold PySem.SeqAt.shaped PyData.canLay0 PyData.depth; rfl, by unfold PySem.SeqAt.shaped PyData.canLay0 PyData.depth; rfl⟩]
  unfold PyData.eqv
  by_cases e : a = b <;> simp [e]
theorem ne_ii : fEq true h (.v (.int a)) (.v (.int b)) = some (.v (.bool (!decide (a = b)))) := by
  unfold fEq toDR toD
  show (if PySem.SeqAt.shaped (.int a) = true ∧ PySem.SeqAt.shaped (.int b) = true then _ else _) = _
  rw [if_pos ⟨by unfold PySem.SeqAt.shaped PyData.canLay0 PyData.depth; rfl, by unfold PySem.SeqAt.shaped PyData.canLay0 PyData.depth; rfl⟩]
  unfold PyData.eqv
  by_cases e : a = b <;> simp [e]
theorem look_obj (e : h[n]? = some (.lst xs)) : look h (.v (.obj n)) = some (false, xs) := by
  show (match h[n]? with
    | some (.lst vs) => some (false, vs)
    | _ => none) = _
  rw [e]
theorem ix_obj (e : h[n]? = some (.lst xs)) : fIx h (.v (.obj n)) (.v (.int a)) = (L2.atI xs a).map .v := by
  show (match look h (.v (.obj n)) with
      | some (_, xs) => (L2.atI xs a).map RV.v
      | none => none) = _
  rw [look_obj e]
theorem ix_tup : fIx h (.v (.tup xs)) (.v (.int a)) = (L2.atI xs a).map .v := (Eq.refl _).trans (Eq.refl _)
theorem ix_ro : fIx h (.v (.ro xs)) (.v (.int a)) = (L2.atI xs a).map .v := (Eq.refl _).trans (Eq.refl _)
theorem ix_own : fIx h (.own xs) (.v (.int a)) = (L2.atI xs a).map .v := (Eq.refl _).trans (Eq.refl _)
theorem ix_view : fIx h (.view xs) (.v (.int a)) = (L2.atI xs a).map .v := (Eq.refl _).trans (Eq.refl _)
theorem len_obj (e : h[n]? = some (.lst xs)) : fLen h (.v (.obj n)) = some (.v (.int xs.length)) := by
  show (match look h (.v (.obj n)) with
    | some (_, xs) => some (RV.v (.int xs.length))
    | none => none) = _
  rw [look_obj e]
theorem len_tup : fLen h (.v (.tup xs)) = some (.v (.int xs.length)) := (Eq.refl _).trans (Eq.refl _)
theorem len_ro : fLen h (.v (.ro xs)) = some (.v (.int xs.length)) := (Eq.refl _).trans (Eq.refl _)
theorem len_own : fLen h (.own xs) = some (.v (.int xs.length)) := (Eq.refl _).trans (Eq.refl _)
theorem len_view : fLen h (.view xs) = some (.v (.int xs.length)) := (Eq.refl _).trans (Eq.refl _)
theorem list_obj (e : h[n]? = some (.lst xs)) : fList h (.v (.obj n)) = some (.own xs) := by
  show (match look h (.v (.obj n)) with
    | some (_, xs) => some (RV.own xs)
    | none => none) = _
  rw [look_obj e]
theorem list_tup : fList h (.v (.tup xs)) = some (.own xs) := (Eq.refl _).trans (Eq.refl _)
theorem list_ro : fList h (.v (.ro xs)) = some (.own xs) := (Eq.refl _).trans (Eq.refl _)
theorem list_scr : fList h (.v (.scr xs)) = some (.own xs) := (Eq.refl _).trans (Eq.refl _)
theorem list_own : fList h (.own xs) = some (.own xs) := (Eq.refl _).trans (Eq.refl _)
theorem list_view : fList h (.view xs) = some (.own xs) := (Eq.refl _).trans (Eq.refl _)
theorem tuple_obj (e : h[n]? = some (.lst xs)) : fTuple h (.v (.obj n)) = some (.v (.tup xs)) := by
  show (match look h (.v (.obj n)) with
    | some (_, xs) => some (RV.v (.tup xs))
    | none => none) = _
  rw [look_obj e]
theorem tuple_tup : fTuple h (.v (.tup xs)) = some (.v (.tup xs)) := (Eq.refl _).trans (Eq.refl _)
theorem tuple_ro : fTuple h (.v (.ro xs)) = some (.v (.tup xs)) := (Eq.refl _).trans (Eq.refl _)
theorem tuple_own : fTuple h (.own xs) = some (.v (.tup xs)) := (Eq.refl _).trans (Eq.refl _)
theorem tuple_view : fTuple h (.view xs) = some (.v (.tup xs)) := (Eq.refl _).trans (Eq.refl _)
theorem at0 {x : Val} {r : List Val} : L2.atI (x :: r) 0 = some x := L2.atI_nat (j := 0) rfl
theorem at1 {x y : Val} {r : List Val} : L2.atI (x :: y :: r) 1 = some y := L2.atI_nat (j := 1) rfl
theorem at2 {x y z : Val} {r : List Val} : L2.atI (x :: y :: z :: r) 2 = some z := L2.atI_nat (j := 2) rfl
theorem at3 {x y z u : Val} {r : List Val} : L2.atI (x :: y :: z :: u :: r) 3 = some u := L2.atI_nat (j := 3) rfl
theorem at_nat {xs : List Val} {i : Int} {x : Val} (h0 : 0 ≤ i) (h : xs[i.toNat]? = some x) : L2.atI xs i = some x := by
  have := L2.atI_nat h
  rw [Int.toNat_of_nonneg h0] at this
  exact this
theorem ixN_lit {n : Nat} {i : Int} (h0 : 0 ≤ i) (h1 : i < n) : L2.ixN n i = some i.toNat := by
  unfold L2.ixN
  rw [if_pos h0, if_pos h1]
end
/-! ### the draws of the laws -/
noncomputable def bDraw : S := sCons (sIf (tAnd (tB (e2 (fEq false) (e2 fIx (eVar 0) (eC (.int 1))) (eC (.int 0)))) (tB (e2 fGe (e2 fIx (eVar 0) (eC (.int 2))) (e1 fLen (e2 fIx (eVar 0) (eC (.int 0))))))) (sCons (sSetHp (eVar 0) (eC (.int 3)) (e2 fMod (e1 fInt (e2 fAdd (e2 fMul (e2 fIx (eVar 0) (eC (.int 3))) (eC (.int 48271))) (eC (.int 69621)))) (eC (.int 2147483629)))) (sRet (e2 fMod (e1 fInt (e2 fDiv (e2 fIx (eVar 0) (eC (.int 3))) (eC (.int 13)))) (eVar 1)))) (sNil)) (sCons (sIf (tB (e2 (fEq false) (e2 fIx (eVar 0) (eC (.int 1))) (eC (.int 0)))) (sCons (sSetHp (eVar 0) (eC (.int 1)) (e1 fAbs (e2 fIx (e2 fIx (eVar 0) (eC (.int 0))) (e2 fIx (eVar 0) (eC (.int 2)))))) (sAugHp (fI0 fun i j => .int (i + j)) (eVar 0) (eC (.int 2)) (eC (.int 1)))) (sNil)) (sCons (sSet 2 (e2 fMod (e1 fInt (e2 fIx (eVar 0) (eC (.int 1)))) (eVar 1))) (sCons (sSetHp (eVar 0) (eC (.int 1)) (e2 fDiv (e2 fIx (eVar 0) (eC (.int 1))) (eVar 1))) (sRet (eVar 2)))))
noncomputable def fDraw : Fn := mkFn 3 bDraw
def IsSt (st : List Val) : Prop := ∃ (ns : List Int) (a b s : Int), st = [.ro (vInts ns), .int a, .int b, .int s] ∧ 0 ≤ a ∧ 0 ≤ b ∧ 0 ≤ s ∧ s ≤ 2147483629
theorem log_lt {n : Nat} (k : Nat) (h : n < 2 ^ (k + 1)) : n.log2 + 1 ≤ k + 1 := by
  by_cases h0 : n = 0
  · subst h0
    rw [Nat.log2_zero]
    omega
  · have := (Nat.log2_lt h0).mpr h
    omega
theorem bits_lt {i : Int} (k : Nat) (h0 : 0 ≤ i) (h : i < 2 ^ (k + 1)) : PySem.Builtin.Int.intBits i ≤ k + 1 := by
  unfold PySem.Builtin.Int.intBits
  split
  · omega
  · refine log_lt k ?_
    have e : ((i.natAbs : Nat) : Int) < ((2 ^ (k + 1) : Nat) : Int) := by
      rw [Int.natAbs_of_nonneg h0, PySem.W.kbt_cast]
      exact h
    omega
end SM

/-! SMStep: the machine in small steps (printed by mkstep.py): what follows a step stands as a name, so that simp does not walk into it. -/
namespace SM
theorem q_C {x : Val} {r : Env} {h : Heap} : eC x r h = .ok (.v x) h := (Eq.refl _).trans (Eq.refl _)
noncomputable def evj (h : Heap) : Option (Option RV) → EO RV := fun o => match o with | some (some x) => .ok (rdSlot x) h | _ => .no
theorem q_Var {i : Nat} {r : Env} {h : Heap} : eVar i r h = evj h r[i]? := (Eq.refl _).trans (Eq.refl _)
theorem q_evv {x : Val} {h : Heap} : evj h (some (some (.v x))) = .ok (.v x) h := (Eq.refl _).trans (Eq.refl _)
theorem q_evo {x : List Val} {h : Heap} : evj h (some (some (.own x))) = .ok (.view x) h := (Eq.refl _).trans (Eq.refl _)
theorem q_evw {x : List Val} {h : Heap} : evj h (some (some (.view x))) = .ok (.view x) h := (Eq.refl _).trans (Eq.refl _)
noncomputable def e1k (f : F1) : RV → Heap → EO RV := fun x h1 => opt (f h1 x) h1
theorem q_e1 {f : F1} {a : E} {r : Env} {h : Heap} : e1 f a r h = (a r h).bind (e1k f) := (Eq.refl _).trans (Eq.refl _)
theorem q_e1k {f : F1} {x : RV} {h : Heap} : e1k f x h = opt (f h x) h := (Eq.refl _).trans (Eq.refl _)
noncomputable def e2j (f : F2) (x : RV) : RV → Heap → EO RV := fun y h2 => opt (f h2 x y) h2
noncomputable def e2k (f : F2) (b : E) (r : Env) : RV → Heap → EO RV := fun x h1 => (b r h1).bind (e2j f x)
theorem q_e2 {f : F2} {a b : E} {r : Env} {h : Heap} : e2 f a b r h = (a r h).bind (e2k f b r) := (Eq.refl _).trans (Eq.refl _)
theorem q_e2k {f : F2} {b : E} {r : Env} {x : RV} {h : Heap} : e2k f b r x h = (b r h).bind (e2j f x) := (Eq.refl _).trans (Eq.refl _)
theorem q_e2j {f : F2} {x y : RV} {h : Heap} : e2j f x y h = opt (f h x y) h := (Eq.refl _).trans (Eq.refl _)
theorem q_aNil {r : Env} {h : Heap} : aNil r h = .ok [] h := (Eq.refl _).trans (Eq.refl _)
noncomputable def acj (x : RV) : List RV → Heap → EO (List RV) := fun xs h2 => .ok (x.arg :: xs) h2
noncomputable def ack (as : A) (r : Env) : RV → Heap → EO (List RV) := fun x h1 => (as r h1).bind (acj x)
theorem q_aCons {a : E} {as : A} {r : Env} {h : Heap} : aCons a as r h = (a r h).bind (ack as r) := (Eq.refl _).trans (Eq.refl _)
theorem q_ack {as : A} {r : Env} {x : RV} {h : Heap} : ack as r x h = (as r h).bind (acj x) := (Eq.refl _).trans (Eq.refl _)
theorem q_acj {x : RV} {xs : List RV} {h : Heap} : acj x xs h = .ok (x.arg :: xs) h := (Eq.refl _).trans (Eq.refl _)
theorem q_argv {x : Val} : RV.arg (.v x) = .v x := (Eq.refl _).trans (Eq.refl _)
theorem q_argo {x : List Val} : RV.arg (.own x) = .v (.ro x) := (Eq.refl _).trans (Eq.refl _)
theorem q_argw {x : List Val} : RV.arg (.view x) = .view x := (Eq.refl _).trans (Eq.refl _)
noncomputable def kpc  : Option Val → Option (List Val) → Option (List Val) := fun a b => match a, b with | some x, some xs => some (x :: xs) | _, _ => none
theorem q_keeps {r : RV} {rs : List RV} : keeps (r :: rs) = kpc r.keep (keeps rs) := (Eq.refl _).trans (Eq.refl _)
theorem q_keepsN  : keeps [] = some [] := (Eq.refl _).trans (Eq.refl _)
theorem q_kpc {x : Val} {xs : List Val} : kpc (some x) (some xs) = some (x :: xs) := (Eq.refl _).trans (Eq.refl _)
theorem q_keepv {x : Val} : RV.keep (.v x) = some x := (Eq.refl _).trans (Eq.refl _)
theorem q_keepo {x : List Val} : RV.keep (.own x) = some (.ro x) := (Eq.refl _).trans (Eq.refl _)
noncomputable def etj (h : Heap) : Option (List Val) → EO RV := fun o => match o with | some xs => if xs.length ≤ line then .ok (.v (.tup xs)) h else .no | none => .no
noncomputable def etk  : List RV → Heap → EO RV := fun rs h => etj h (keeps rs)
theorem q_Tup {as : A} {r : Env} {h : Heap} : eTup as r h = (as r h).bind etk := (Eq.refl _).trans (Eq.refl _)
theorem q_etk {rs : List RV} {h : Heap} : etk rs h = etj h (keeps rs) := (Eq.refl _).trans (Eq.refl _)
theorem q_etj {xs : List Val} {h : Heap} : etj h (some xs) = if xs.length ≤ line then .ok (.v (.tup xs)) h else .no := (Eq.refl _).trans (Eq.refl _)
noncomputable def elj (h : Heap) : Option (List Val) → EO RV := fun o => match o with | some xs => if xs.length ≤ line then .ok (.own xs) h else .no | none => .no
noncomputable def elk  : List RV → Heap → EO RV := fun rs h => elj h (keeps rs)
theorem q_Lst {as : A} {r : Env} {h : Heap} : eLst as r h = (as r h).bind elk := (Eq.refl _).trans (Eq.refl _)
theorem q_elk {rs : List RV} {h : Heap} : elk rs h = elj h (keeps rs) := (Eq.refl _).trans (Eq.refl _)
theorem q_elj {xs : List Val} {h : Heap} : elj h (some xs) = if xs.length ≤ line then .ok (.own xs) h else .no := (Eq.refl _).trans (Eq.refl _)
theorem q_Call {f : Fn} {as : A} {r : Env} {h : Heap} : eCall f as r h = (as r h).bind f := (Eq.refl _).trans (Eq.refl _)
noncomputable def eifk (a b : E) (r : Env) : Bool → Heap → EO RV := fun c h1 => if c = true then a r h1 else b r h1
theorem q_If {t : T} {a b : E} {r : Env} {h : Heap} : eIf t a b r h = (t r h).bind (eifk a b r) := (Eq.refl _).trans (Eq.refl _)
theorem q_ift {a b : E} {r : Env} {h : Heap} : eifk a b r true h = a r h := (Eq.refl _).trans (Eq.refl _)
theorem q_iff {a b : E} {r : Env} {h : Heap} : eifk a b r false h = b r h := (Eq.refl _).trans (Eq.refl _)
noncomputable def tbk  : RV → Heap → EO Bool := fun x h1 => match x with | .v (.bool b) => .ok b h1 | _ => .no
theorem q_tB {a : E} {r : Env} {h : Heap} : tB a r h = (a r h).bind tbk := (Eq.refl _).trans (Eq.refl _)
theorem q_tbk {b : Bool} {h : Heap} : tbk (.v (.bool b)) h = .ok b h := (Eq.refl _).trans (Eq.refl _)
noncomputable def ttk  : RV → Heap → EO Bool := fun x h1 => opt (truth h1 x) h1
theorem q_tTru {a : E} {r : Env} {h : Heap} : tTru a r h = (a r h).bind ttk := (Eq.refl _).trans (Eq.refl _)
theorem q_ttk {x : RV} {h : Heap} : ttk x h = opt (truth h x) h := (Eq.refl _).trans (Eq.refl _)
noncomputable def tak (b : T) (r : Env) : Bool → Heap → EO Bool := fun c h1 => if c = true then b r h1 else .ok false h1
theorem q_tAnd {a b : T} {r : Env} {h : Heap} : tAnd a b r h = (a r h).bind (tak b r) := (Eq.refl _).trans (Eq.refl _)
theorem q_takt {b : T} {r : Env} {h : Heap} : tak b r true h = b r h := (Eq.refl _).trans (Eq.refl _)
theorem q_takf {b : T} {r : Env} {h : Heap} : tak b r false h = .ok false h := (Eq.refl _).trans (Eq.refl _)
noncomputable def tok (b : T) (r : Env) : Bool → Heap → EO Bool := fun c h1 => if c = true then .ok true h1 else b r h1
theorem q_tOr {a b : T} {r : Env} {h : Heap} : tOr a b r h = (a r h).bind (tok b r) := (Eq.refl _).trans (Eq.refl _)
theorem q_tokt {b : T} {r : Env} {h : Heap} : tok b r true h = .ok true h := (Eq.refl _).trans (Eq.refl _)
theorem q_tokf {b : T} {r : Env} {h : Heap} : tok b r false h = b r h := (Eq.refl _).trans (Eq.refl _)
noncomputable def tnk  : Bool → Heap → EO Bool := fun c h1 => .ok (!c) h1
theorem q_tNot {a : T} {r : Env} {h : Heap} : tNot a r h = (a r h).bind tnk := (Eq.refl _).trans (Eq.refl _)
theorem q_tnk {c : Bool} {h : Heap} : tnk c h = .ok (!c) h := (Eq.refl _).trans (Eq.refl _)
theorem q_tYes {r : Env} {h : Heap} : tYes r h = .ok true h := (Eq.refl _).trans (Eq.refl _)
noncomputable def ndj (b : E) (r : Env) (x : RV) (h : Heap) : Option Bool → EO RV := fun o => match o with | some true => b r h | some false => .ok x h | none => .no
noncomputable def ndk (b : E) (r : Env) : RV → Heap → EO RV := fun x h1 => ndj b r x h1 (truth h1 x)
theorem q_And {a b : E} {r : Env} {h : Heap} : eAnd a b r h = (a r h).bind (ndk b r) := (Eq.refl _).trans (Eq.refl _)
theorem q_ndk {b : E} {r : Env} {x : RV} {h : Heap} : ndk b r x h = ndj b r x h (truth h x) := (Eq.refl _).trans (Eq.refl _)
theorem q_ndt {b : E} {r : Env} {x : RV} {h : Heap} : ndj b r x h (some true) = b r h := (Eq.refl _).trans (Eq.refl _)
theorem q_ndf {b : E} {r : Env} {x : RV} {h : Heap} : ndj b r x h (some false) = .ok x h := (Eq.refl _).trans (Eq.refl _)
noncomputable def orj (b : E) (r : Env) (x : RV) (h : Heap) : Option Bool → EO RV := fun o => match o with | some true => .ok x h | some false => b r h | none => .no
noncomputable def ork (b : E) (r : Env) : RV → Heap → EO RV := fun x h1 => orj b r x h1 (truth h1 x)
theorem q_Or {a b : E} {r : Env} {h : Heap} : eOr a b r h = (a r h).bind (ork b r) := (Eq.refl _).trans (Eq.refl _)
theorem q_ork {b : E} {r : Env} {x : RV} {h : Heap} : ork b r x h = orj b r x h (truth h x) := (Eq.refl _).trans (Eq.refl _)
theorem q_ort {b : E} {r : Env} {x : RV} {h : Heap} : orj b r x h (some true) = .ok x h := (Eq.refl _).trans (Eq.refl _)
theorem q_orf {b : E} {r : Env} {x : RV} {h : Heap} : orj b r x h (some false) = b r h := (Eq.refl _).trans (Eq.refl _)
noncomputable def ntj (h : Heap) : Option Bool → EO RV := fun o => match o with | some c => .ok (.v (.bool (!c))) h | none => .no
noncomputable def ntk  : RV → Heap → EO RV := fun x h1 => ntj h1 (truth h1 x)
theorem q_Not {a : E} {r : Env} {h : Heap} : eNot a r h = (a r h).bind ntk := (Eq.refl _).trans (Eq.refl _)
theorem q_ntk {x : RV} {h : Heap} : ntk x h = ntj h (truth h x) := (Eq.refl _).trans (Eq.refl _)
theorem q_ntj {c : Bool} {h : Heap} : ntj h (some c) = .ok (.v (.bool (!c))) h := (Eq.refl _).trans (Eq.refl _)
theorem q_trN {h : Heap} : truth h (.v .none) = some false := (Eq.refl _).trans (Eq.refl _)
theorem q_trB {h : Heap} {b : Bool} : truth h (.v (.bool b)) = some b := (Eq.refl _).trans (Eq.refl _)
theorem q_trI {h : Heap} {i : Int} : truth h (.v (.int i)) = some (i != 0) := (Eq.refl _).trans (Eq.refl _)
theorem q_trT {h : Heap} {xs : List Val} : truth h (.v (.tup xs)) = some (!xs.isEmpty) := (Eq.refl _).trans (Eq.refl _)
theorem q_trR {h : Heap} {xs : List Val} : truth h (.v (.ro xs)) = some (!xs.isEmpty) := (Eq.refl _).trans (Eq.refl _)
theorem q_trO {h : Heap} {xs : List Val} : truth h (.own xs) = some (!xs.isEmpty) := (Eq.refl _).trans (Eq.refl _)
theorem q_trW {h : Heap} {xs : List Val} : truth h (.view xs) = some (!xs.isEmpty) := (Eq.refl _).trans (Eq.refl _)
noncomputable def chi (g : F2) (c : E) (r : Env) (y : RV) (h : Heap) : Option RV → EO RV := fun o => match o with | some (.v (.bool true)) => (c r h).bind (e2j g y) | some (.v (.bool false)) => .ok (.v (.bool false)) h | _ => .no
noncomputable def chj (f g : F2) (c : E) (r : Env) (x : RV) : RV → Heap → EO RV := fun y h2 => chi g c r y h2 (f h2 x y)
noncomputable def chk (f g : F2) (b c : E) (r : Env) : RV → Heap → EO RV := fun x h1 => (b r h1).bind (chj f g c r x)
theorem q_Chain {f g : F2} {a b c : E} {r : Env} {h : Heap} : eChain f g a b c r h = (a r h).bind (chk f g b c r) := (Eq.refl _).trans (Eq.refl _)
theorem q_chk {f g : F2} {b c : E} {r : Env} {x : RV} {h : Heap} : chk f g b c r x h = (b r h).bind (chj f g c r x) := (Eq.refl _).trans (Eq.refl _)
theorem q_chj {f g : F2} {c : E} {r : Env} {x y : RV} {h : Heap} : chj f g c r x y h = chi g c r y h (f h x y) := (Eq.refl _).trans (Eq.refl _)
theorem q_chit {g : F2} {c : E} {r : Env} {y : RV} {h : Heap} : chi g c r y h (some (.v (.bool true))) = (c r h).bind (e2j g y) := (Eq.refl _).trans (Eq.refl _)
theorem q_chif {g : F2} {c : E} {r : Env} {y : RV} {h : Heap} : chi g c r y h (some (.v (.bool false))) = .ok (.v (.bool false)) h := (Eq.refl _).trans (Eq.refl _)
theorem q_sNil {r : Env} {h : Heap} : sNil r h = .nx r h := (Eq.refl _).trans (Eq.refl _)
theorem q_sPass {r : Env} {h : Heap} : sPass r h = .nx r h := (Eq.refl _).trans (Eq.refl _)
theorem q_sCons {a b : S} {r : Env} {h : Heap} : sCons a b r h = (a r h).seq b := (Eq.refl _).trans (Eq.refl _)
noncomputable def ssk (i : Nat) (r : Env) : RV → Heap → SO := fun x h1 => match x.keep with | some y => .nx (r.set i (some (.v y))) h1 | none => .no
theorem q_sSet {i : Nat} {a : E} {r : Env} {h : Heap} : sSet i a r h = (a r h).then r (ssk i r) := (Eq.refl _).trans (Eq.refl _)
theorem q_ssv {i : Nat} {r : Env} {x : Val} {h : Heap} : ssk i r (.v x) h = .nx (r.set i (some (.v x))) h := (Eq.refl _).trans (Eq.refl _)
theorem q_sso {i : Nat} {r : Env} {x : List Val} {h : Heap} : ssk i r (.own x) h = .nx (r.set i (some (.v (.ro x)))) h := (Eq.refl _).trans (Eq.refl _)
noncomputable def sok (i : Nat) (r : Env) : RV → Heap → SO := fun x h1 => match x with | .own xs => .nx (r.set i (some (.own xs))) h1 | _ => .no
theorem q_sOwn {i : Nat} {a : E} {r : Env} {h : Heap} : sOwn i a r h = (a r h).then r (sok i r) := (Eq.refl _).trans (Eq.refl _)
theorem q_sok {i : Nat} {r : Env} {x : List Val} {h : Heap} : sok i r (.own x) h = .nx (r.set i (some (.own x))) h := (Eq.refl _).trans (Eq.refl _)
noncomputable def shk (i : Nat) (r : Env) : RV → Heap → SO := fun x h1 => match x with | .own xs => .nx (r.set i (some (.v (.obj h1.length)))) (h1 ++ [.lst xs]) | _ => .no
theorem q_sHeap {i : Nat} {a : E} {r : Env} {h : Heap} : sHeap i a r h = (a r h).then r (shk i r) := (Eq.refl _).trans (Eq.refl _)
theorem q_shk {i : Nat} {r : Env} {x : List Val} {h : Heap} : shk i r (.own x) h = .nx (r.set i (some (.v (.obj h.length)))) (h ++ [.lst x]) := (Eq.refl _).trans (Eq.refl _)
noncomputable def sfj (i : Nat) (r : Env) (h : Heap) : Option (Option RV) → SO := fun o => match o with | some (some (.own xs)) => .nx (r.set i (some (.v (.ro xs)))) h | _ => .no
theorem q_sFrz {i : Nat} {r : Env} {h : Heap} : sFrz i r h = sfj i r h r[i]? := (Eq.refl _).trans (Eq.refl _)
theorem q_sfj {i : Nat} {r : Env} {h : Heap} {xs : List Val} : sfj i r h (some (some (.own xs))) = .nx (r.set i (some (.v (.ro xs)))) h := (Eq.refl _).trans (Eq.refl _)
noncomputable def sxk (r : Env) : RV → Heap → SO := fun _ h1 => .nx r h1
theorem q_sExpr {a : E} {r : Env} {h : Heap} : sExpr a r h = (a r h).then r (sxk r) := (Eq.refl _).trans (Eq.refl _)
theorem q_sxk {r : Env} {x : RV} {h : Heap} : sxk r x h = .nx r h := (Eq.refl _).trans (Eq.refl _)
noncomputable def srk  : RV → Heap → SO := fun x h1 => match x with | .view _ => .no | x => .rt x h1
theorem q_sRet {a : E} {r : Env} {h : Heap} : sRet a r h = (a r h).then r srk := (Eq.refl _).trans (Eq.refl _)
theorem q_srv {x : Val} {h : Heap} : srk (.v x) h = .rt (.v x) h := (Eq.refl _).trans (Eq.refl _)
theorem q_sro {x : List Val} {h : Heap} : srk (.own x) h = .rt (.own x) h := (Eq.refl _).trans (Eq.refl _)
noncomputable def roj (h : Heap) : Option (Option RV) → SO := fun o => match o with | some (some (.own xs)) => .rt (.own xs) h | _ => .no
theorem q_sRetOwn {i : Nat} {r : Env} {h : Heap} : sRetOwn i r h = roj h r[i]? := (Eq.refl _).trans (Eq.refl _)
theorem q_roj {xs : List Val} {h : Heap} : roj h (some (some (.own xs))) = .rt (.own xs) h := (Eq.refl _).trans (Eq.refl _)
theorem q_sRetN {r : Env} {h : Heap} : sRetN r h = .rt (.v .none) h := (Eq.refl _).trans (Eq.refl _)
theorem q_sBreak {r : Env} {h : Heap} : sBreak r h = .bk r h := (Eq.refl _).trans (Eq.refl _)
theorem q_sCont {r : Env} {h : Heap} : sCont r h = .ct r h := (Eq.refl _).trans (Eq.refl _)
noncomputable def sifk (a b : S) (r : Env) : Bool → Heap → SO := fun c h1 => if c = true then a r h1 else b r h1
theorem q_sIf {t : T} {a b : S} {r : Env} {h : Heap} : sIf t a b r h = (t r h).then r (sifk a b r) := (Eq.refl _).trans (Eq.refl _)
theorem q_sift {a b : S} {r : Env} {h : Heap} : sifk a b r true h = a r h := (Eq.refl _).trans (Eq.refl _)
theorem q_siff {a b : S} {r : Env} {h : Heap} : sifk a b r false h = b r h := (Eq.refl _).trans (Eq.refl _)
noncomputable def sapk (i : Nat) (r : Env) (xs : List Val) : RV → Heap → SO := fun x h1 => match x.keep with | some y => if xs.length < line then .nx (r.set i (some (.own (xs ++ [y])))) h1 else .no | none => .no
noncomputable def sapj (i : Nat) (a : E) (r : Env) (h : Heap) : Option (Option RV) → SO := fun o => match o with | some (some (.own xs)) => (a r h).then r (sapk i r xs) | _ => .no
theorem q_sApp {i : Nat} {a : E} {r : Env} {h : Heap} : sApp i a r h = sapj i a r h r[i]? := by unfold sApp sapj sapk; rfl
theorem q_sapj {i : Nat} {a : E} {r : Env} {h : Heap} {xs : List Val} : sapj i a r h (some (some (.own xs))) = (a r h).then r (sapk i r xs) := (Eq.refl _).trans (Eq.refl _)
theorem q_sapv {i : Nat} {r : Env} {xs : List Val} {x : Val} {h : Heap} : sapk i r xs (.v x) h = if xs.length < line then .nx (r.set i (some (.own (xs ++ [x])))) h else .no := (Eq.refl _).trans (Eq.refl _)
theorem q_sapo {i : Nat} {r : Env} {xs : List Val} {x : List Val} {h : Heap} : sapk i r xs (.own x) h = if xs.length < line then .nx (r.set i (some (.own (xs ++ [.ro x])))) h else .no := (Eq.refl _).trans (Eq.refl _)
noncomputable def sexm (i : Nat) (r : Env) (xs : List Val) (h : Heap) : Option (List Val) → SO := fun o => match o with | some ys => if xs.length + ys.length ≤ line then .nx (r.set i (some (.own (xs ++ ys)))) h else .no | none => .no
noncomputable def sexk (i : Nat) (r : Env) (xs : List Val) : RV → Heap → SO := fun x h1 => sexm i r xs h1 (lookL h1 x)
noncomputable def sexj (i : Nat) (a : E) (r : Env) (h : Heap) : Option (Option RV) → SO := fun o => match o with | some (some (.own xs)) => (a r h).then r (sexk i r xs) | _ => .no
theorem q_sExt {i : Nat} {a : E} {r : Env} {h : Heap} : sExt i a r h = sexj i a r h r[i]? := by unfold sExt sexj sexk sexm; rfl
theorem q_sexj {i : Nat} {a : E} {r : Env} {h : Heap} {xs : List Val} : sexj i a r h (some (some (.own xs))) = (a r h).then r (sexk i r xs) := (Eq.refl _).trans (Eq.refl _)
theorem q_sexk {i : Nat} {r : Env} {xs : List Val} {x : RV} {h : Heap} : sexk i r xs x h = sexm i r xs h (lookL h x) := (Eq.refl _).trans (Eq.refl _)
theorem q_sexm {i : Nat} {r : Env} {xs ys : List Val} {h : Heap} : sexm i r xs h (some ys) = if xs.length + ys.length ≤ line then .nx (r.set i (some (.own (xs ++ ys)))) h else .no := (Eq.refl _).trans (Eq.refl _)
theorem q_llo {h : Heap} {xs : List Val} : lookL h (.own xs) = some xs := (Eq.refl _).trans (Eq.refl _)
theorem q_llw {h : Heap} {xs : List Val} : lookL h (.view xs) = some xs := (Eq.refl _).trans (Eq.refl _)
theorem q_llr {h : Heap} {xs : List Val} : lookL h (.v (.ro xs)) = some xs := (Eq.refl _).trans (Eq.refl _)
noncomputable def sixm (i : Nat) (r : Env) (xs : List Val) (y : Val) (h : Heap) : Option Nat → SO := fun o => match o with | some n => .nx (r.set i (some (.own (xs.set n y)))) h | none => .no
noncomputable def sixl (i : Nat) (r : Env) (xs : List Val) (y : Val) : RV → Heap → SO := fun j h2 => match j with | .v (.int j) => sixm i r xs y h2 (L2.ixN xs.length j) | _ => .no
noncomputable def sixj (i : Nat) (ix : E) (r : Env) (y : Val) (h : Heap) : Option (Option RV) → SO := fun o => match o with | some (some (.own xs)) => (ix r h).then r (sixl i r xs y) | _ => .no
noncomputable def sixk (i : Nat) (ix : E) (r : Env) : RV → Heap → SO := fun x h1 => match x.keep with | some y => sixj i ix r y h1 r[i]? | none => .no
theorem q_sSetIx {i : Nat} {ix a : E} {r : Env} {h : Heap} : sSetIx i ix a r h = (a r h).then r (sixk i ix r) := by unfold sSetIx sixk sixj sixl sixm; rfl
theorem q_sixv {i : Nat} {ix : E} {r : Env} {x : Val} {h : Heap} : sixk i ix r (.v x) h = sixj i ix r x h r[i]? := (Eq.refl _).trans (Eq.refl _)
theorem q_sixo {i : Nat} {ix : E} {r : Env} {x : List Val} {h : Heap} : sixk i ix r (.own x) h = sixj i ix r (.ro x) h r[i]? := (Eq.refl _).trans (Eq.refl _)
theorem q_sixj {i : Nat} {ix : E} {r : Env} {y : Val} {h : Heap} {xs : List Val} : sixj i ix r y h (some (some (.own xs))) = (ix r h).then r (sixl i r xs y) := (Eq.refl _).trans (Eq.refl _)
theorem q_sixl {i : Nat} {r : Env} {xs : List Val} {y : Val} {j : Int} {h : Heap} : sixl i r xs y (.v (.int j)) h = sixm i r xs y h (L2.ixN xs.length j) := (Eq.refl _).trans (Eq.refl _)
theorem q_sixm {i : Nat} {r : Env} {xs : List Val} {y : Val} {n : Nat} {h : Heap} : sixm i r xs y h (some n) = .nx (r.set i (some (.own (xs.set n y)))) h := (Eq.refl _).trans (Eq.refl _)
noncomputable def hpn (r : Env) (y : Val) (m : Nat) (h : Heap) (xs : List Val) : Option Nat → SO := fun o => match o with | some n => .nx r (h.set m (.lst (xs.set n y))) | none => .no
noncomputable def hpm (r : Env) (y : Val) (m : Nat) (h : Heap) (j : Int) : Option HObj → SO := fun o => match o with | some (.lst xs) => hpn r y m h xs (L2.ixN xs.length j) | _ => .no
noncomputable def hpl (r : Env) (y : Val) (m : Nat) : RV → Heap → SO := fun j h3 => match j with | .v (.int j) => hpm r y m h3 j h3[m]? | _ => .no
noncomputable def hpj (ix : E) (r : Env) (y : Val) : RV → Heap → SO := fun p h2 => match p with | .v (.obj m) => (ix r h2).then r (hpl r y m) | _ => .no
noncomputable def hpk (o ix : E) (r : Env) : RV → Heap → SO := fun x h1 => match x.keep with | some y => (o r h1).then r (hpj ix r y) | none => .no
theorem q_sSetHp {o ix a : E} {r : Env} {h : Heap} : sSetHp o ix a r h = (a r h).then r (hpk o ix r) := by unfold sSetHp hpk hpj hpl hpm hpn; rfl
theorem q_hpv {o ix : E} {r : Env} {x : Val} {h : Heap} : hpk o ix r (.v x) h = (o r h).then r (hpj ix r x) := (Eq.refl _).trans (Eq.refl _)
theorem q_hpo {o ix : E} {r : Env} {x : List Val} {h : Heap} : hpk o ix r (.own x) h = (o r h).then r (hpj ix r (.ro x)) := (Eq.refl _).trans (Eq.refl _)
theorem q_hpj {ix : E} {r : Env} {y : Val} {m : Nat} {h : Heap} : hpj ix r y (.v (.obj m)) h = (ix r h).then r (hpl r y m) := (Eq.refl _).trans (Eq.refl _)
theorem q_hpl {r : Env} {y : Val} {m : Nat} {j : Int} {h : Heap} : hpl r y m (.v (.int j)) h = hpm r y m h j h[m]? := (Eq.refl _).trans (Eq.refl _)
theorem q_hpm {r : Env} {y : Val} {m : Nat} {j : Int} {h : Heap} {xs : List Val} : hpm r y m h j (some (.lst xs)) = hpn r y m h xs (L2.ixN xs.length j) := (Eq.refl _).trans (Eq.refl _)
theorem q_hpn {r : Env} {y : Val} {m n : Nat} {h : Heap} {xs : List Val} : hpn r y m h xs (some n) = .nx r (h.set m (.lst (xs.set n y))) := (Eq.refl _).trans (Eq.refl _)
noncomputable def agp (r : Env) (m : Nat) (j : Int) (u : Val) (h : Heap) : Option HObj → SO := fun o => match o with | some (.lst ys) => hpn r u m h ys (L2.ixN ys.length j) | _ => .no
noncomputable def ago (r : Env) (m : Nat) (j : Int) (h : Heap) : Option RV → SO := fun o => match o with | some u => (match u.keep with | some u => agp r m j u h h[m]? | none => .no) | none => .no
noncomputable def agn (f : F2) (r : Env) (m : Nat) (j : Int) (z : Val) : RV → Heap → SO := fun y h3 => ago r m j h3 (f h3 (.v z) y)
noncomputable def agm (f : F2) (a : E) (r : Env) (m : Nat) (j : Int) (h : Heap) : Option Val → SO := fun o => match o with | some z => (a r h).then r (agn f r m j z) | none => .no
noncomputable def agl (f : F2) (a : E) (r : Env) (m : Nat) (j : Int) (h : Heap) : Option HObj → SO := fun o => match o with | some (.lst xs) => agm f a r m j h (L2.atI xs j) | _ => .no
noncomputable def agj (f : F2) (a : E) (r : Env) (m : Nat) : RV → Heap → SO := fun j h2 => match j with | .v (.int j) => agl f a r m j h2 h2[m]? | _ => .no
noncomputable def agk (f : F2) (ix a : E) (r : Env) : RV → Heap → SO := fun p h1 => match p with | .v (.obj m) => (ix r h1).then r (agj f a r m) | _ => .no
theorem q_sAugHp {f : F2} {o ix a : E} {r : Env} {h : Heap} : sAugHp f o ix a r h = (o r h).then r (agk f ix a r) := by unfold sAugHp agk agj agl agm agn ago agp hpn; rfl
theorem q_agk {f : F2} {ix a : E} {r : Env} {m : Nat} {h : Heap} : agk f ix a r (.v (.obj m)) h = (ix r h).then r (agj f a r m) := (Eq.refl _).trans (Eq.refl _)
theorem q_agj {f : F2} {a : E} {r : Env} {m : Nat} {j : Int} {h : Heap} : agj f a r m (.v (.int j)) h = agl f a r m j h h[m]? := (Eq.refl _).trans (Eq.refl _)
theorem q_agl {f : F2} {a : E} {r : Env} {m : Nat} {j : Int} {h : Heap} {xs : List Val} : agl f a r m j h (some (.lst xs)) = agm f a r m j h (L2.atI xs j) := (Eq.refl _).trans (Eq.refl _)
theorem q_agm {f : F2} {a : E} {r : Env} {m : Nat} {j : Int} {h : Heap} {z : Val} : agm f a r m j h (some z) = (a r h).then r (agn f r m j z) := (Eq.refl _).trans (Eq.refl _)
theorem q_agn {f : F2} {r : Env} {m : Nat} {j : Int} {z : Val} {y : RV} {h : Heap} : agn f r m j z y h = ago r m j h (f h (.v z) y) := (Eq.refl _).trans (Eq.refl _)
theorem q_ago {r : Env} {m : Nat} {j : Int} {h : Heap} {u : Val} : ago r m j h (some (.v u)) = agp r m j u h h[m]? := (Eq.refl _).trans (Eq.refl _)
theorem q_agp {r : Env} {m : Nat} {j : Int} {u : Val} {h : Heap} {ys : List Val} : agp r m j u h (some (.lst ys)) = hpn r u m h ys (L2.ixN ys.length j) := (Eq.refl _).trans (Eq.refl _)
noncomputable def unk (is : List Nat) (r : Env) : RV → Heap → SO := fun x h1 => match x with | .v (.tup xs) => if xs.length = is.length then .nx (setAll is xs r) h1 else .no | _ => .no
theorem q_sUnp {is : List Nat} {a : E} {r : Env} {h : Heap} : sUnp is a r h = (a r h).then r (unk is r) := (Eq.refl _).trans (Eq.refl _)
theorem q_unk {is : List Nat} {r : Env} {xs : List Val} {h : Heap} : unk is r (.v (.tup xs)) h = if xs.length = is.length then .nx (setAll is xs r) h else .no := (Eq.refl _).trans (Eq.refl _)
theorem q_setc {i : Nat} {is : List Nat} {x : Val} {xs : List Val} {r : Env} : setAll (i :: is) (x :: xs) r = setAll is xs (r.set i (some (.v x))) := (Eq.refl _).trans (Eq.refl _)
theorem q_setn {r : Env} : setAll [] [] r = r := by unfold setAll; rfl
noncomputable def p2j (i j : Nat) (r : Env) (x : Val) : RV → Heap → SO := fun y h2 => match y.keep with | some y => .nx ((r.set i (some (.v x))).set j (some (.v y))) h2 | none => .no
noncomputable def p2k (i j : Nat) (b : E) (r : Env) : RV → Heap → SO := fun x h1 => match x.keep with | some x => (b r h1).then r (p2j i j r x) | none => .no
theorem q_sPar2 {i j : Nat} {a b : E} {r : Env} {h : Heap} : sPar2 i j a b r h = (a r h).then r (p2k i j b r) := (Eq.refl _).trans (Eq.refl _)
theorem q_p2v {i j : Nat} {b : E} {r : Env} {x : Val} {h : Heap} : p2k i j b r (.v x) h = (b r h).then r (p2j i j r x) := (Eq.refl _).trans (Eq.refl _)
theorem q_p2o {i j : Nat} {b : E} {r : Env} {x : List Val} {h : Heap} : p2k i j b r (.own x) h = (b r h).then r (p2j i j r (.ro x)) := (Eq.refl _).trans (Eq.refl _)
theorem q_p2jv {i j : Nat} {r : Env} {x y : Val} {h : Heap} : p2j i j r x (.v y) h = .nx ((r.set i (some (.v x))).set j (some (.v y))) h := (Eq.refl _).trans (Eq.refl _)
theorem q_p2jo {i j : Nat} {r : Env} {x : Val} {y : List Val} {h : Heap} : p2j i j r x (.own y) h = .nx ((r.set i (some (.v x))).set j (some (.v (.ro y)))) h := (Eq.refl _).trans (Eq.refl _)
noncomputable def aum (i : Nat) (r : Env) (h : Heap) : Option RV → SO := fun o => match o with | some z => (match z.keep with | some z => .nx (r.set i (some (.v z))) h | none => .no) | none => .no
noncomputable def aul (i : Nat) (f : F2) (r : Env) (x : Val) : RV → Heap → SO := fun y h1 => aum i r h1 (f h1 (.v x) y)
noncomputable def auj (i : Nat) (f : F2) (a : E) (r : Env) (h : Heap) : Option (Option RV) → SO := fun o => match o with | some (some (.v x)) => (a r h).then r (aul i f r x) | _ => .no
theorem q_sAug {i : Nat} {f : F2} {a : E} {r : Env} {h : Heap} : sAug i f a r h = auj i f a r h r[i]? := by unfold sAug auj aul aum; rfl
theorem q_auj {i : Nat} {f : F2} {a : E} {r : Env} {h : Heap} {x : Val} : auj i f a r h (some (some (.v x))) = (a r h).then r (aul i f r x) := (Eq.refl _).trans (Eq.refl _)
theorem q_aul {i : Nat} {f : F2} {r : Env} {x : Val} {y : RV} {h : Heap} : aul i f r x y h = aum i r h (f h (.v x) y) := (Eq.refl _).trans (Eq.refl _)
theorem q_aumv {i : Nat} {r : Env} {z : Val} {h : Heap} : aum i r h (some (.v z)) = .nx (r.set i (some (.v z))) h := (Eq.refl _).trans (Eq.refl _)
theorem q_aumo {i : Nat} {r : Env} {z : List Val} {h : Heap} : aum i r h (some (.own z)) = .nx (r.set i (some (.v (.ro z)))) h := (Eq.refl _).trans (Eq.refl _)
noncomputable def whk (c : T) (b : S) (n : Nat) (r : Env) : Bool → Heap → SO := fun k h1 => if k = true then (b r h1).turn (sWhile c b n) else .nx r h1
theorem q_sWhile {c : T} {b : S} {n : Nat} {r : Env} {h : Heap} : sWhile c b (n + 1) r h = (c r h).then r (whk c b n r) := (Eq.refl _).trans (Eq.refl _)
theorem q_wht {c : T} {b : S} {n : Nat} {r : Env} {h : Heap} : whk c b n r true h = (b r h).turn (sWhile c b n) := (Eq.refl _).trans (Eq.refl _)
theorem q_whf {c : T} {b : S} {n : Nat} {r : Env} {h : Heap} : whk c b n r false h = .nx r h := (Eq.refl _).trans (Eq.refl _)
noncomputable def frk (g : Tg) (b : S) (r : Env) : List Val × List Nat → Heap → SO := fun p h1 => forL g b p.2 h1 p.1 r h1
theorem q_sFor {g : Tg} {it : I} {b : S} {r : Env} {h : Heap} : sFor g it b r h = (it r h).then r (frk g b r) := (Eq.refl _).trans (Eq.refl _)
theorem q_frk {g : Tg} {b : S} {r : Env} {xs : List Val} {dep : List Nat} {h : Heap} : frk g b r (xs, dep) h = forL g b dep h xs r h := (Eq.refl _).trans (Eq.refl _)
noncomputable def flk (b : S) (k : S) (h : Heap) : Option Env → SO := fun o => match o with | some r1 => (b r1 h).turn k | none => .no
theorem q_forN {g : Tg} {b : S} {h0 : Heap} {r : Env} {h : Heap} : forL g b [] h0 [] r h = .nx r h := (Eq.refl _).trans (Eq.refl _)
theorem q_forC {g : Tg} {b : S} {h0 : Heap} {x : Val} {xs : List Val} {r : Env} {h : Heap} : forL g b [] h0 (x :: xs) r h = flk b (forL g b [] h0 xs) h (g.put x r) := (Eq.refl _).trans (Eq.refl _)
theorem q_flk {b k : S} {h : Heap} {r : Env} : flk b k h (some r) = (b r h).turn k := (Eq.refl _).trans (Eq.refl _)
theorem q_putN {i : Nat} {x : Val} {r : Env} : Tg.put (.nm i) x r = some (r.set i (some (.v x))) := (Eq.refl _).trans (Eq.refl _)
theorem q_putT {is : List Nat} {xs : List Val} {r : Env} : Tg.put (.tp is) (.tup xs) r = if xs.length = is.length then some (setAll is xs r) else none := (Eq.refl _).trans (Eq.refl _)
noncomputable def ioj (h : Heap) : Option (Bool × List Val × List Nat) → EO (List Val × List Nat) := fun o => match o with | some (_, xs, dep) => .ok (xs, dep) h | none => .no
noncomputable def iok (sq : Heap → RV → Option (Bool × List Val × List Nat)) : RV → Heap → EO (List Val × List Nat) := fun x h1 => ioj h1 (sq h1 x)
theorem q_iOf {sq : Heap → RV → Option (Bool × List Val × List Nat)} {a : E} {r : Env} {h : Heap} : iOf sq a r h = (a r h).bind (iok sq) := (Eq.refl _).trans (Eq.refl _)
theorem q_iok {sq : Heap → RV → Option (Bool × List Val × List Nat)} {x : RV} {h : Heap} : iok sq x h = ioj h (sq h x) := (Eq.refl _).trans (Eq.refl _)
theorem q_ioj {h : Heap} {t : Bool} {xs : List Val} {dep : List Nat} : ioj h (some (t, xs, dep)) = .ok (xs, dep) h := (Eq.refl _).trans (Eq.refl _)
theorem q_svT {h : Heap} {xs : List Val} : seqV h (.v (.tup xs)) = some (true, xs, []) := (Eq.refl _).trans (Eq.refl _)
theorem q_svR {h : Heap} {xs : List Val} : seqV h (.v (.ro xs)) = some (false, xs, []) := (Eq.refl _).trans (Eq.refl _)
theorem q_svS {h : Heap} {xs : List Val} : seqV h (.v (.scr xs)) = some (false, xs, []) := (Eq.refl _).trans (Eq.refl _)
theorem q_svO {h : Heap} {xs : List Val} : seqV h (.own xs) = some (false, xs, []) := (Eq.refl _).trans (Eq.refl _)
theorem q_seT {h : Heap} {xs : List Val} : seqE h (.v (.tup xs)) = some (true, xs, []) := (Eq.refl _).trans (Eq.refl _)
theorem q_seR {h : Heap} {xs : List Val} : seqE h (.v (.ro xs)) = some (false, xs, []) := (Eq.refl _).trans (Eq.refl _)
theorem q_seS {h : Heap} {xs : List Val} : seqE h (.v (.scr xs)) = some (false, xs, []) := (Eq.refl _).trans (Eq.refl _)
theorem q_seO {h : Heap} {xs : List Val} : seqE h (.own xs) = some (false, xs, []) := (Eq.refl _).trans (Eq.refl _)
theorem q_seW {h : Heap} {xs : List Val} : seqE h (.view xs) = some (false, xs, []) := (Eq.refl _).trans (Eq.refl _)
noncomputable def ivj (h : Heap) : Option (Option RV) → EO (List Val × List Nat) := fun o => match o with | some (some (.view xs)) => .ok (xs, []) h | some (some (.v x)) => ioj h (seqV h (.v x)) | _ => .no
theorem q_iView {i : Nat} {r : Env} {h : Heap} : iView i r h = ivj h r[i]? := by unfold iView ivj ioj; rfl
theorem q_ivw {h : Heap} {xs : List Val} : ivj h (some (some (.view xs))) = .ok (xs, []) h := (Eq.refl _).trans (Eq.refl _)
theorem q_ivv {h : Heap} {x : Val} : ivj h (some (some (.v x))) = ioj h (seqV h (.v x)) := (Eq.refl _).trans (Eq.refl _)
noncomputable def irk  : RV → Heap → EO (List Val × List Nat) := fun x h1 => match x with | .v (.int j) => if -(2 ^ 62) ≤ j ∧ j < 2 ^ 62 then .ok (upTo 0 j.toNat, []) h1 else .no | _ => .no
theorem q_iRng1 {a : E} {r : Env} {h : Heap} : iRng1 a r h = (a r h).bind irk := (Eq.refl _).trans (Eq.refl _)
theorem q_irk {j : Int} {h : Heap} : irk (.v (.int j)) h = if -(2 ^ 62) ≤ j ∧ j < 2 ^ 62 then .ok (upTo 0 j.toNat, []) h else .no := (Eq.refl _).trans (Eq.refl _)
noncomputable def slk3 (x : RV) (l : Option Int) : Option Int → Heap → EO RV := fun u h3 => opt (fCut h3 x l u) h3
noncomputable def slk2 (hi : Option E) (r : Env) (x : RV) : Option Int → Heap → EO RV := fun l h2 => (ePart hi r h2).bind (slk3 x l)
noncomputable def slk1 (lo hi : Option E) (r : Env) : RV → Heap → EO RV := fun x h1 => (ePart lo r h1).bind (slk2 hi r x)
theorem q_Sl {a : E} {lo hi : Option E} {r : Env} {h : Heap} : eSl a lo hi r h = (a r h).bind (slk1 lo hi r) := (Eq.refl _).trans (Eq.refl _)
theorem q_slk1 {lo hi : Option E} {r : Env} {x : RV} {h : Heap} : slk1 lo hi r x h = (ePart lo r h).bind (slk2 hi r x) := (Eq.refl _).trans (Eq.refl _)
theorem q_slk2 {hi : Option E} {r : Env} {x : RV} {l : Option Int} {h : Heap} : slk2 hi r x l h = (ePart hi r h).bind (slk3 x l) := (Eq.refl _).trans (Eq.refl _)
theorem q_slk3 {x : RV} {l u : Option Int} {h : Heap} : slk3 x l u h = opt (fCut h x l u) h := (Eq.refl _).trans (Eq.refl _)
noncomputable def epk  : RV → Heap → EO (Option Int) := fun x h1 => match x with | .v (.int i) => .ok (some i) h1 | _ => .no
theorem q_ePN {r : Env} {h : Heap} : ePart none r h = .ok none h := (Eq.refl _).trans (Eq.refl _)
theorem q_ePS {a : E} {r : Env} {h : Heap} : ePart (some a) r h = (a r h).bind epk := (Eq.refl _).trans (Eq.refl _)
theorem q_epk {i : Int} {h : Heap} : epk (.v (.int i)) h = .ok (some i) h := (Eq.refl _).trans (Eq.refl _)
theorem q_cutT {h : Heap} {xs : List Val} {l u : Option Int} : fCut h (.v (.tup xs)) l u = some (.v (.tup (cutX xs l u))) := (Eq.refl _).trans (Eq.refl _)
theorem q_cutR {h : Heap} {xs : List Val} {l u : Option Int} : fCut h (.v (.ro xs)) l u = some (.own (cutX xs l u)) := (Eq.refl _).trans (Eq.refl _)
theorem q_cutS {h : Heap} {xs : List Val} {l u : Option Int} : fCut h (.v (.scr xs)) l u = some (.own (cutX xs l u)) := (Eq.refl _).trans (Eq.refl _)
theorem q_cutO {h : Heap} {xs : List Val} {l u : Option Int} : fCut h (.own xs) l u = some (.own (cutX xs l u)) := (Eq.refl _).trans (Eq.refl _)
theorem q_cutW {h : Heap} {xs : List Val} {l u : Option Int} : fCut h (.view xs) l u = some (.own (cutX xs l u)) := (Eq.refl _).trans (Eq.refl _)
noncomputable def stk3 (c : Int) (x : RV) (l : Option Int) : Option Int → Heap → EO RV := fun u h3 => opt (fPick h3 x l u c) h3
noncomputable def stk2 (c : Int) (hi : Option E) (r : Env) (x : RV) : Option Int → Heap → EO RV := fun l h2 => (ePart hi r h2).bind (stk3 c x l)
noncomputable def stk1 (c : Int) (lo hi : Option E) (r : Env) : RV → Heap → EO RV := fun x h1 => (ePart lo r h1).bind (stk2 c hi r x)
theorem q_SlSt {a : E} {lo hi : Option E} {c : Int} {r : Env} {h : Heap} : eSlSt a lo hi c r h = (a r h).bind (stk1 c lo hi r) := (Eq.refl _).trans (Eq.refl _)
theorem q_stk1 {c : Int} {lo hi : Option E} {r : Env} {x : RV} {h : Heap} : stk1 c lo hi r x h = (ePart lo r h).bind (stk2 c hi r x) := (Eq.refl _).trans (Eq.refl _)
theorem q_stk2 {c : Int} {hi : Option E} {r : Env} {x : RV} {l : Option Int} {h : Heap} : stk2 c hi r x l h = (ePart hi r h).bind (stk3 c x l) := (Eq.refl _).trans (Eq.refl _)
theorem q_stk3 {c : Int} {x : RV} {l u : Option Int} {h : Heap} : stk3 c x l u h = opt (fPick h x l u c) h := (Eq.refl _).trans (Eq.refl _)
theorem q_revO {h : Heap} {xs : List Val} : fRev h (.own xs) = some (.own xs.reverse) := (Eq.refl _).trans (Eq.refl _)
theorem q_revR {h : Heap} {xs : List Val} : fRev h (.v (.ro xs)) = some (.own xs.reverse) := (Eq.refl _).trans (Eq.refl _)
theorem q_revW {h : Heap} {xs : List Val} : fRev h (.view xs) = some (.own xs.reverse) := (Eq.refl _).trans (Eq.refl _)
noncomputable def lrj (t : Bool) (x : RV) : RV → Heap → EO RV := fun y h2 => match x, y with | .v (.int i), .v (.int j) => if -(2 ^ 62) ≤ i ∧ i < 2 ^ 62 ∧ -(2 ^ 62) ≤ j ∧ j < 2 ^ 62 ∧ (j - i).toNat ≤ line then .ok (if t then .v (.tup (upTo i (j - i).toNat)) else .own (upTo i (j - i).toNat)) h2 else .no | _, _ => .no
noncomputable def lrk (t : Bool) (b : E) (r : Env) : RV → Heap → EO RV := fun x h1 => (b r h1).bind (lrj t x)
theorem q_LR {t : Bool} {a b : E} {r : Env} {h : Heap} : eLR t a b r h = (a r h).bind (lrk t b r) := (Eq.refl _).trans (Eq.refl _)
theorem q_lrk {t : Bool} {b : E} {r : Env} {x : RV} {h : Heap} : lrk t b r x h = (b r h).bind (lrj t x) := (Eq.refl _).trans (Eq.refl _)
theorem q_lrj {t : Bool} {i j : Int} {h : Heap} : lrj t (.v (.int i)) (.v (.int j)) h = if -(2 ^ 62) ≤ i ∧ i < 2 ^ 62 ∧ -(2 ^ 62) ≤ j ∧ j < 2 ^ 62 ∧ (j - i).toNat ≤ line then .ok (if t then .v (.tup (upTo i (j - i).toNat)) else .own (upTo i (j - i).toNat)) h else .no := (Eq.refl _).trans (Eq.refl _)
noncomputable def r2j (x : RV) : RV → Heap → EO (List Val × List Nat) := fun y h2 => match x, y with | .v (.int i), .v (.int j) => if -(2 ^ 62) ≤ i ∧ i < 2 ^ 62 ∧ -(2 ^ 62) ≤ j ∧ j < 2 ^ 62 then .ok (upTo i (j - i).toNat, []) h2 else .no | _, _ => .no
noncomputable def r2k (b : E) (r : Env) : RV → Heap → EO (List Val × List Nat) := fun x h1 => (b r h1).bind (r2j x)
theorem q_iRng2 {a b : E} {r : Env} {h : Heap} : iRng2 a b r h = (a r h).bind (r2k b r) := (Eq.refl _).trans (Eq.refl _)
theorem q_r2k {b : E} {r : Env} {x : RV} {h : Heap} : r2k b r x h = (b r h).bind (r2j x) := (Eq.refl _).trans (Eq.refl _)
theorem q_r2j {i j : Int} {h : Heap} : r2j (.v (.int i)) (.v (.int j)) h = if -(2 ^ 62) ≤ i ∧ i < 2 ^ 62 ∧ -(2 ^ 62) ≤ j ∧ j < 2 ^ 62 then .ok (upTo i (j - i).toNat, []) h else .no := (Eq.refl _).trans (Eq.refl _)
noncomputable def r3i (x y : RV) : RV → Heap → EO (List Val × List Nat) := fun z h3 => match x, y, z with | .v (.int i), .v (.int j), .v (.int k) => if k ≠ 0 ∧ k.natAbs < 1073741824 ∧ PySem.Builtin.Range.small i j k = true ∧ 0 ≤ PySem.Builtin.Range.rangeSize i j k then .ok (stepTo i k (PySem.Builtin.Range.rangeSize i j k).toNat, []) h3 else .no | _, _, _ => .no
noncomputable def r3j (c : E) (r : Env) (x : RV) : RV → Heap → EO (List Val × List Nat) := fun y h2 => (c r h2).bind (r3i x y)
noncomputable def r3k (b c : E) (r : Env) : RV → Heap → EO (List Val × List Nat) := fun x h1 => (b r h1).bind (r3j c r x)
theorem q_iRng3 {a b c : E} {r : Env} {h : Heap} : iRng3 a b c r h = (a r h).bind (r3k b c r) := (Eq.refl _).trans (Eq.refl _)
theorem q_r3k {b c : E} {r : Env} {x : RV} {h : Heap} : r3k b c r x h = (b r h).bind (r3j c r x) := (Eq.refl _).trans (Eq.refl _)
theorem q_r3j {c : E} {r : Env} {x y : RV} {h : Heap} : r3j c r x y h = (c r h).bind (r3i x y) := (Eq.refl _).trans (Eq.refl _)
theorem q_r3i {i j k : Int} {h : Heap} : r3i (.v (.int i)) (.v (.int j)) (.v (.int k)) h = if k ≠ 0 ∧ k.natAbs < 1073741824 ∧ PySem.Builtin.Range.small i j k = true ∧ 0 ≤ PySem.Builtin.Range.rangeSize i j k then .ok (stepTo i k (PySem.Builtin.Range.rangeSize i j k).toNat, []) h else .no := (Eq.refl _).trans (Eq.refl _)
noncomputable def ulj (is : List Nat) (r : Env) (h : Heap) : Option (Bool × List Val) → SO := fun o => match o with | some (false, xs) => if xs.length = is.length then .nx (setAll is xs r) h else .no | _ => .no
noncomputable def ulk (is : List Nat) (r : Env) : RV → Heap → SO := fun x h1 => ulj is r h1 (look h1 x)
theorem q_sUnpL {is : List Nat} {a : E} {r : Env} {h : Heap} : sUnpL is a r h = (a r h).then r (ulk is r) := (Eq.refl _).trans (Eq.refl _)
theorem q_ulk {is : List Nat} {r : Env} {x : RV} {h : Heap} : ulk is r x h = ulj is r h (look h x) := (Eq.refl _).trans (Eq.refl _)
theorem q_ulj {is : List Nat} {r : Env} {xs : List Val} {h : Heap} : ulj is r h (some (false, xs)) = if xs.length = is.length then .nx (setAll is xs r) h else .no := (Eq.refl _).trans (Eq.refl _)
theorem q_lkO {h : Heap} {xs : List Val} : look h (.own xs) = some (false, xs) := (Eq.refl _).trans (Eq.refl _)
theorem q_lkR {h : Heap} {xs : List Val} : look h (.v (.ro xs)) = some (false, xs) := (Eq.refl _).trans (Eq.refl _)
theorem q_lkW {h : Heap} {xs : List Val} : look h (.view xs) = some (false, xs) := (Eq.refl _).trans (Eq.refl _)
theorem q_lkT {h : Heap} {xs : List Val} : look h (.v (.tup xs)) = some (true, xs) := (Eq.refl _).trans (Eq.refl _)
noncomputable def xam (i : Nat) (r : Env) (xs : List Val) (h : Heap) : Option (List Val) → SO := fun o => match o with | some ys => if xs.length + ys.length ≤ line then .nx (r.set i (some (.own (xs ++ ys)))) h else .no | none => .no
noncomputable def xak (i : Nat) (r : Env) (xs : List Val) : RV → Heap → SO := fun x h1 => xam i r xs h1 (lookA h1 x)
noncomputable def xaj (i : Nat) (a : E) (r : Env) (h : Heap) : Option (Option RV) → SO := fun o => match o with | some (some (.own xs)) => (a r h).then r (xak i r xs) | _ => .no
theorem q_sExtA {i : Nat} {a : E} {r : Env} {h : Heap} : sExtA i a r h = xaj i a r h r[i]? := by unfold sExtA xaj xak xam; rfl
theorem q_xaj {i : Nat} {a : E} {r : Env} {h : Heap} {xs : List Val} : xaj i a r h (some (some (.own xs))) = (a r h).then r (xak i r xs) := (Eq.refl _).trans (Eq.refl _)
theorem q_xak {i : Nat} {r : Env} {xs : List Val} {x : RV} {h : Heap} : xak i r xs x h = xam i r xs h (lookA h x) := (Eq.refl _).trans (Eq.refl _)
theorem q_xam {i : Nat} {r : Env} {xs ys : List Val} {h : Heap} : xam i r xs h (some ys) = if xs.length + ys.length ≤ line then .nx (r.set i (some (.own (xs ++ ys)))) h else .no := (Eq.refl _).trans (Eq.refl _)
theorem q_laO {h : Heap} {xs : List Val} : lookA h (.own xs) = some xs := (Eq.refl _).trans (Eq.refl _)
theorem q_laW {h : Heap} {xs : List Val} : lookA h (.view xs) = some xs := (Eq.refl _).trans (Eq.refl _)
theorem q_laR {h : Heap} {xs : List Val} : lookA h (.v (.ro xs)) = some xs := (Eq.refl _).trans (Eq.refl _)
theorem q_laT {h : Heap} {xs : List Val} : lookA h (.v (.tup xs)) = some xs := (Eq.refl _).trans (Eq.refl _)
noncomputable def l3i (x y : RV) : RV → Heap → EO RV := fun z h3 => match x, y, z with | .v (.int i), .v (.int j), .v (.int k) => if k ≠ 0 ∧ k.natAbs < 1073741824 ∧ PySem.Builtin.Range.small i j k = true ∧ 0 ≤ PySem.Builtin.Range.rangeSize i j k ∧ (PySem.Builtin.Range.rangeSize i j k).toNat ≤ line then .ok (.own (stepTo i k (PySem.Builtin.Range.rangeSize i j k).toNat)) h3 else .no | _, _, _ => .no
noncomputable def l3j (c : E) (r : Env) (x : RV) : RV → Heap → EO RV := fun y h2 => (c r h2).bind (l3i x y)
noncomputable def l3k (b c : E) (r : Env) : RV → Heap → EO RV := fun x h1 => (b r h1).bind (l3j c r x)
theorem q_LR3 {a b c : E} {r : Env} {h : Heap} : eLR3 a b c r h = (a r h).bind (l3k b c r) := (Eq.refl _).trans (Eq.refl _)
theorem q_l3k {b c : E} {r : Env} {x : RV} {h : Heap} : l3k b c r x h = (b r h).bind (l3j c r x) := (Eq.refl _).trans (Eq.refl _)
theorem q_l3j {c : E} {r : Env} {x y : RV} {h : Heap} : l3j c r x y h = (c r h).bind (l3i x y) := (Eq.refl _).trans (Eq.refl _)
theorem q_l3i {i j k : Int} {h : Heap} : l3i (.v (.int i)) (.v (.int j)) (.v (.int k)) h = if k ≠ 0 ∧ k.natAbs < 1073741824 ∧ PySem.Builtin.Range.small i j k = true ∧ 0 ≤ PySem.Builtin.Range.rangeSize i j k ∧ (PySem.Builtin.Range.rangeSize i j k).toNat ≤ line then .ok (.own (stepTo i k (PySem.Builtin.Range.rangeSize i j k).toNat)) h else .no := (Eq.refl _).trans (Eq.refl _)
noncomputable def ssn (i : Nat) (r : Env) (xs : List Val) (l u : Int) (h : Heap) : Option (List Val) → SO := fun o => match o with | some ys => if 0 ≤ l ∧ l ≤ u ∧ u ≤ xs.length ∧ xs.length + ys.length ≤ line then .nx (r.set i (some (.own (xs.take l.toNat ++ ys ++ xs.drop u.toNat)))) h else .no | none => .no
noncomputable def ssm (i : Nat) (r : Env) (x : RV) (xs : List Val) (l : Int) : RV → Heap → SO := fun u h3 => match u with | .v (.int u) => ssn i r xs l u h3 (lookN h3 x) | _ => .no
noncomputable def ssl (i : Nat) (hi : E) (r : Env) (x : RV) (xs : List Val) : RV → Heap → SO := fun l h2 => match l with | .v (.int l) => (hi r h2).then r (ssm i r x xs l) | _ => .no
noncomputable def ssj (i : Nat) (lo hi : E) (r : Env) (x : RV) (h : Heap) : Option (Option RV) → SO := fun o => match o with | some (some (.own xs)) => (lo r h).then r (ssl i hi r x xs) | _ => .no
noncomputable def ssk2 (i : Nat) (lo hi : E) (r : Env) : RV → Heap → SO := fun x h1 => ssj i lo hi r x h1 r[i]?
theorem q_sSetSl {i : Nat} {lo hi a : E} {r : Env} {h : Heap} : sSetSl i lo hi a r h = (a r h).then r (ssk2 i lo hi r) := by unfold sSetSl ssk2 ssj ssl ssm ssn; rfl
theorem q_ssk2 {i : Nat} {lo hi : E} {r : Env} {x : RV} {h : Heap} : ssk2 i lo hi r x h = ssj i lo hi r x h r[i]? := (Eq.refl _).trans (Eq.refl _)
theorem q_ssj {i : Nat} {lo hi : E} {r : Env} {x : RV} {h : Heap} {xs : List Val} : ssj i lo hi r x h (some (some (.own xs))) = (lo r h).then r (ssl i hi r x xs) := (Eq.refl _).trans (Eq.refl _)
theorem q_ssl {i : Nat} {hi : E} {r : Env} {x : RV} {h : Heap} {xs : List Val} {l : Int} : ssl i hi r x xs (.v (.int l)) h = (hi r h).then r (ssm i r x xs l) := (Eq.refl _).trans (Eq.refl _)
theorem q_ssm {i : Nat} {r : Env} {x : RV} {h : Heap} {xs : List Val} {l u : Int} : ssm i r x xs l (.v (.int u)) h = ssn i r xs l u h (lookN h x) := (Eq.refl _).trans (Eq.refl _)
theorem q_ssn {i : Nat} {r : Env} {h : Heap} {xs ys : List Val} {l u : Int} : ssn i r xs l u h (some ys) = if 0 ≤ l ∧ l ≤ u ∧ u ≤ xs.length ∧ xs.length + ys.length ≤ line then .nx (r.set i (some (.own (xs.take l.toNat ++ ys ++ xs.drop u.toNat)))) h else .no := (Eq.refl _).trans (Eq.refl _)
end SM

/-! SMDraw: the draws of the laws. -/
namespace SM
theorem mkFn_eq (n : Nat) (b : S) (args : List RV) (h : Heap) : mkFn n b args h = fin h (b (args.map some ++ List.replicate (n - args.length) none) h) := rfl
theorem hmul_seed {s : Int} (hs : 0 ≤ s) (hs2 : s ≤ 2147483629) : CMul s 48271 := by
  have := bits_lt (i := s) 31 hs (by omega)
  have : PySem.Builtin.Int.intBits 48271 = 16 := by decide +kernel
  show (_ : Int) ≤ _
  omega
theorem draw_ok {h : Heap} {n : Nat} {st : List Val} {m : Int} (hn : h[n]? = some (.lst st)) (hst : IsSt st) (hm : 0 < m) (hl : m.natAbs.log2 < 9000) :
    ∃ v st', fDraw [.v (.obj n), .v (.int m)] h = .ok (.v (.int v)) (h.set n (.lst st')) ∧ IsSt st' ∧ 0 ≤ v ∧ v < m := by
  obtain ⟨ns, a, b, s, rfl, ha, hb, hs, hs2⟩ := hst
  have hlt : n < h.length := (List.getElem?_eq_some_iff.mp hn).1
  have hset : ∀ o, (h.set n o)[n]? = some o := fun o => List.getElem?_set_self hlt
  have hmod0 : ∀ i : Int, 0 ≤ i % m := fun i => Int.emod_nonneg _ (by omega)
  have hmod1 : ∀ i : Int, i % m < m := fun i => Int.emod_lt_of_pos _ hm
  have hmul : CMul s 48271 := hmul_seed hs hs2
  have g0 : ∀ v : Int, (0 : Int) ≤ v % 2147483629 := fun v => by omega
  have i1 : L2.ixN 4 1 = some 1 := by decide
  have i2 : L2.ixN 4 2 = some 2 := by decide
  have i3 : L2.ixN 4 3 = some 3 := by decide
  have dv : ∀ i : Int, 0 ≤ i → 0 ≤ i / m := fun i hi => Int.ediv_nonneg hi (by omega)
  by_cases h0 : a = 0
  · subst h0
    by_cases hz : ((vInts ns).length : Int) ≤ b
    · have e : fDraw [.v (.obj n), .v (.int m)] h = .ok (.v (.int ((s * 48271 + 69621) % 2147483629 / 13 % m))) (h.set n (.lst [.ro (vInts ns), .int 0, .int b, .int ((s * 48271 + 69621) % 2147483629)])) := by
        unfold fDraw
        rw [mkFn_eq]
        unfold bDraw
        simp only [q_C, q_Var, q_evv, q_evo, q_evw, q_e1, q_e1k, q_e2, q_e2k, q_e2j, q_aNil, q_aCons, q_ack, q_acj, q_argv, q_argo, q_argw, q_keeps, q_keepsN, q_kpc, q_keepv, q_keepo, q_Tup, q_etk, q_etj, q_Lst, q_elk, q_elj, q_Call, q_If, q_ift, q_iff, q_tB, q_tbk, q_tTru, q_ttk, q_tAnd, q_takt, q_takf, q_tOr, q_tokt, q_tokf, q_tNot, q_tnk, q_tYes, q_And, q_ndk, q_ndt, q_ndf, q_Or, q_ork, q_ort, q_orf, q_Not, q_ntk, q_ntj, q_trN, q_trB, q_trI, q_trT, q_trR, q_trO, q_trW, q_Chain, q_chk, q_chj, q_chit, q_chif, q_sNil, q_sPass, q_sCons, q_sSet, q_ssv, q_sso, q_sOwn, q_sok, q_sHeap, q_shk, q_sFrz, q_sfj, q_sExpr, q_sxk, q_sRet, q_srv, q_sro, q_sRetOwn, q_roj, q_sRetN, q_sBreak, q_sCont, q_sIf, q_sift, q_siff, q_sApp, q_sapj, q_sapv, q_sapo, q_sExt, q_sexj, q_sexk, q_sexm, q_llo, q_llw, q_llr, q_sSetIx, q_sixv, q_sixo, q_sixj, q_sixl, q_sixm, q_sSetHp, q_hpv, q_hpo, q_hpj, q_hpl, q_hpm, q_hpn, q_sAugHp, q_agk, q_agj, q_agl, q_agm, q_agn, q_ago, q_agp, q_sUnp, q_unk, q_setc, q_setn, q_sPar2, q_p2v, q_p2o, q_p2jv, q_p2jo, q_sAug, q_auj, q_aul, q_aumv, q_aumo, q_sWhile, q_wht, q_whf, q_frk, q_forN, q_forC, q_flk, q_putN, q_putT, q_iok, q_ioj, q_svT, q_svR, q_svS, q_svO, q_seT, q_seR, q_seS, q_seO, q_seW, q_iView, q_ivw, q_ivv, q_iRng1, q_irk, q_Sl, q_slk1, q_slk2, q_slk3, q_ePN, q_ePS, q_epk, q_cutT, q_cutR, q_cutS, q_cutO, q_cutW, q_SlSt, q_stk1, q_stk2, q_stk3, q_revO, q_revR, q_revW, q_LR, q_lrk, q_lrj, q_iRng2, q_r2k, q_r2j, q_iRng3, q_r3k, q_r3j, q_r3i, q_sUnpL, q_ulk, q_ulj, q_lkO, q_lkR, q_lkW, q_lkT, q_sExtA, q_xaj, q_xak, q_xam, q_laO, q_laW, q_laR, q_laT, q_LR3, q_l3k, q_l3j, q_l3i, q_sSetSl, q_ssk2, q_ssj, q_ssl, q_ssm, q_ssn, opt_some, opt_none, EO.bind_ok, EO.bind_ex, EO.then_ok, EO.then_ex, SO.seq_nx, SO.seq_rt, SO.seq_bk, SO.seq_ct, SO.seq_ex, SO.turn_nx, SO.turn_ct, SO.turn_bk, SO.turn_rt, SO.turn_ex, add_ii, sub_ii, and_ii, or_ii, xor_ii, lt_ii, le_ii, gt_ii, ge_ii, max_ii, min_ii, neg_i, abs_i, int_i, eq_ii, ne_ii, len_tup, len_ro, len_own, len_view, list_tup, list_ro, list_scr, list_own, list_view, tuple_tup, tuple_ro, tuple_own, tuple_view, at0, at1, at2, at3, ix_tup, ix_ro, ix_own, ix_view, Option.map_some, line, List.getElem?_cons_zero, List.getElem?_cons_succ, List.getElem?_nil, List.set_cons_zero, List.set_cons_succ, List.set_nil, List.length_cons, List.length_nil, List.map_cons, List.map_nil, List.cons_append, List.nil_append, List.replicate, Bool.not_true, Bool.not_false, if_true, if_false, Bool.false_eq_true, reduceIte, Nat.reduceAdd, Nat.reduceSub, Nat.reduceLeDiff, Nat.reduceEqDiff, decide_true, decide_false, ix_obj hn, ix_obj (hset _), mul_ii hmul, mod_ii (show (0 : Int) < 2147483629 by decide), hz, hn, hset, div_ii (show (0 : Int) < 13 by decide) (by decide +kernel), mod_ii hm, i3]
        exact fin_len List.length_set
      exact ⟨_, _, e, ⟨ns, 0, b, _, rfl, by omega, hb, g0 _, by omega⟩, hmod0 _, hmod1 _⟩
    · have hb' : b.toNat < ns.length := by
        rw [List.length_map] at hz
        omega
      have hat : L2.atI (vInts ns) b = some (.int ns[b.toNat]) := at_nat hb (by rw [List.getElem?_map, List.getElem?_eq_getElem hb']; rfl)
      have e : fDraw [.v (.obj n), .v (.int m)] h = .ok (.v (.int ((if ns[b.toNat] < 0 then -ns[b.toNat] else ns[b.toNat]) % m))) (h.set n (.lst [.ro (vInts ns), .int ((if ns[b.toNat] < 0 then -ns[b.toNat] else ns[b.toNat]) / m), .int (b + 1), .int s])) := by
        unfold fDraw
        rw [mkFn_eq]
        unfold bDraw
        simp only [q_C, q_Var, q_evv, q_evo, q_evw, q_e1, q_e1k, q_e2, q_e2k, q_e2j, q_aNil, q_aCons, q_ack, q_acj, q_argv, q_argo, q_argw, q_keeps, q_keepsN, q_kpc, q_keepv, q_keepo, q_Tup, q_etk, q_etj, q_Lst, q_elk, q_elj, q_Call, q_If, q_ift, q_iff, q_tB, q_tbk, q_tTru, q_ttk, q_tAnd, q_takt, q_takf, q_tOr, q_tokt, q_tokf, q_tNot, q_tnk, q_tYes, q_And, q_ndk, q_ndt, q_ndf, q_Or, q_ork, q_ort, q_orf, q_Not, q_ntk, q_ntj, q_trN, q_trB, q_trI, q_trT, q_trR, q_trO, q_trW, q_Chain, q_chk, q_chj, q_chit, q_chif, q_sNil, q_sPass, q_sCons, q_sSet, q_ssv, q_sso, q_sOwn, q_sok, q_sHeap, q_shk, q_sFrz, q_sfj, q_sExpr, q_sxk, q_sRet, q_srv, q_sro, q_sRetOwn, q_roj, q_sRetN, q_sBreak, q_sCont, q_sIf, q_sift, q_siff, q_sApp, q_sapj, q_sapv, q_sapo, q_sExt, q_sexj, q_sexk, q_sexm, q_llo, q_llw, q_llr, q_sSetIx, q_sixv, q_sixo, q_sixj, q_sixl, q_sixm, q_sSetHp, q_hpv, q_hpo, q_hpj, q_hpl, q_hpm, q_hpn, q_sAugHp, q_agk, q_agj, q_agl, q_agm, q_agn, q_ago, q_agp, q_sUnp, q_unk, q_setc, q_setn, q_sPar2, q_p2v, q_p2o, q_p2jv, q_p2jo, q_sAug, q_auj, q_aul, q_aumv, q_aumo, q_sWhile, q_wht, q_whf, q_frk, q_forN, q_forC, q_flk, q_putN, q_putT, q_iok, q_ioj, q_svT, q_svR, q_svS, q_svO, q_seT, q_seR, q_seS, q_seO, q_seW, q_iView, q_ivw, q_ivv, q_iRng1, q_irk, q_Sl, q_slk1, q_slk2, q_slk3, q_ePN, q_ePS, q_epk, q_cutT, q_cutR, q_cutS, q_cutO, q_cutW, q_SlSt, q_stk1, q_stk2, q_stk3, q_revO, q_revR, q_revW, q_LR, q_lrk, q_lrj, q_iRng2, q_r2k, q_r2j, q_iRng3, q_r3k, q_r3j, q_r3i, q_sUnpL, q_ulk, q_ulj, q_lkO, q_lkR, q_lkW, q_lkT, q_sExtA, q_xaj, q_xak, q_xam, q_laO, q_laW, q_laR, q_laT, q_LR3, q_l3k, q_l3j, q_l3i, q_sSetSl, q_ssk2, q_ssj, q_ssl, q_ssm, q_ssn, opt_some, opt_none, EO.bind_ok, EO.bind_ex, EO.then_ok, EO.then_ex, SO.seq_nx, SO.seq_rt, SO.seq_bk, SO.seq_ct, SO.seq_ex, SO.turn_nx, SO.turn_ct, SO.turn_bk, SO.turn_rt, SO.turn_ex, add_ii, sub_ii, and_ii, or_ii, xor_ii, lt_ii, le_ii, gt_ii, ge_ii, max_ii, min_ii, neg_i, abs_i, int_i, eq_ii, ne_ii, len_tup, len_ro, len_own, len_view, list_tup, list_ro, list_scr, list_own, list_view, tuple_tup, tuple_ro, tuple_own, tuple_view, at0, at1, at2, at3, ix_tup, ix_ro, ix_own, ix_view, Option.map_some, line, List.getElem?_cons_zero, List.getElem?_cons_succ, List.getElem?_nil, List.set_cons_zero, List.set_cons_succ, List.set_nil, List.length_cons, List.length_nil, List.map_cons, List.map_nil, List.cons_append, List.nil_append, List.replicate, Bool.not_true, Bool.not_false, if_true, if_false, Bool.false_eq_true, reduceIte, Nat.reduceAdd, Nat.reduceSub, Nat.reduceLeDiff, Nat.reduceEqDiff, decide_true, decide_false, ix_obj hn, ix_obj (hset _), hat, hz, hn, hset, mod_ii hm, div_ii hm hl, i1, i2, fI0, List.set_set]
        exact fin_len List.length_set
      have hc : (0 : Int) ≤ if ns[b.toNat] < 0 then -ns[b.toNat] else ns[b.toNat] := by
        split <;> omega
      exact ⟨_, _, e, ⟨ns, _, b + 1, s, rfl, dv _ hc, by omega, hs, hs2⟩, hmod0 _, hmod1 _⟩
  · have e : fDraw [.v (.obj n), .v (.int m)] h = .ok (.v (.int (a % m))) (h.set n (.lst [.ro (vInts ns), .int (a / m), .int b, .int s])) := by
      unfold fDraw
      rw [mkFn_eq]
      unfold bDraw
      simp only [q_C, q_Var, q_evv, q_evo, q_evw, q_e1, q_e1k, q_e2, q_e2k, q_e2j, q_aNil, q_aCons, q_ack, q_acj, q_argv, q_argo, q_argw, q_keeps, q_keepsN, q_kpc, q_keepv, q_keepo, q_Tup, q_etk, q_etj, q_Lst, q_elk, q_elj, q_Call, q_If, q_ift, q_iff, q_tB, q_tbk, q_tTru, q_ttk, q_tAnd, q_takt, q_takf, q_tOr, q_tokt, q_tokf, q_tNot, q_tnk, q_tYes, q_And, q_ndk, q_ndt, q_ndf, q_Or, q_ork, q_ort, q_orf, q_Not, q_ntk, q_ntj, q_trN, q_trB, q_trI, q_trT, q_trR, q_trO, q_trW, q_Chain, q_chk, q_chj, q_chit, q_chif, q_sNil, q_sPass, q_sCons, q_sSet, q_ssv, q_sso, q_sOwn, q_sok, q_sHeap, q_shk, q_sFrz, q_sfj, q_sExpr, q_sxk, q_sRet, q_srv, q_sro, q_sRetOwn, q_roj, q_sRetN, q_sBreak, q_sCont, q_sIf, q_sift, q_siff, q_sApp, q_sapj, q_sapv, q_sapo, q_sExt, q_sexj, q_sexk, q_sexm, q_llo, q_llw, q_llr, q_sSetIx, q_sixv, q_sixo, q_sixj, q_sixl, q_sixm, q_sSetHp, q_hpv, q_hpo, q_hpj, q_hpl, q_hpm, q_hpn, q_sAugHp, q_agk, q_agj, q_agl, q_agm, q_agn, q_ago, q_agp, q_sUnp, q_unk, q_setc, q_setn, q_sPar2, q_p2v, q_p2o, q_p2jv, q_p2jo, q_sAug, q_auj, q_aul, q_aumv, q_aumo, q_sWhile, q_wht, q_whf, q_frk, q_forN, q_forC, q_flk, q_putN, q_putT, q_iok, q_ioj, q_svT, q_svR, q_svS, q_svO, q_seT, q_seR, q_seS, q_seO, q_seW, q_iView, q_ivw, q_ivv, q_iRng1, q_irk, q_Sl, q_slk1, q_slk2, q_slk3, q_ePN, q_ePS, q_epk, q_cutT, q_cutR, q_cutS, q_cutO, q_cutW, q_SlSt, q_stk1, q_stk2, q_stk3, q_revO, q_revR, q_revW, q_LR, q_lrk, q_lrj, q_iRng2, q_r2k, q_r2j, q_iRng3, q_r3k, q_r3j, q_r3i, q_sUnpL, q_ulk, q_ulj, q_lkO, q_lkR, q_lkW, q_lkT, q_sExtA, q_xaj, q_xak, q_xam, q_laO, q_laW, q_laR, q_laT, q_LR3, q_l3k, q_l3j, q_l3i, q_sSetSl, q_ssk2, q_ssj, q_ssl, q_ssm, q_ssn, opt_some, opt_none, EO.bind_ok, EO.bind_ex, EO.then_ok, EO.then_ex, SO.seq_nx, SO.seq_rt, SO.seq_bk, SO.seq_ct, SO.seq_ex, SO.turn_nx, SO.turn_ct, SO.turn_bk, SO.turn_rt, SO.turn_ex, add_ii, sub_ii, and_ii, or_ii, xor_ii, lt_ii, le_ii, gt_ii, ge_ii, max_ii, min_ii, neg_i, abs_i, int_i, eq_ii, ne_ii, len_tup, len_ro, len_own, len_view, list_tup, list_ro, list_scr, list_own, list_view, tuple_tup, tuple_ro, tuple_own, tuple_view, at0, at1, at2, at3, ix_tup, ix_ro, ix_own, ix_view, Option.map_some, line, List.getElem?_cons_zero, List.getElem?_cons_succ, List.getElem?_nil, List.set_cons_zero, List.set_cons_succ, List.set_nil, List.length_cons, List.length_nil, List.map_cons, List.map_nil, List.cons_append, List.nil_append, List.replicate, Bool.not_true, Bool.not_false, if_true, if_false, Bool.false_eq_true, reduceIte, Nat.reduceAdd, Nat.reduceSub, Nat.reduceLeDiff, Nat.reduceEqDiff, decide_true, decide_false, ix_obj hn, ix_obj (hset _), h0, hn, hset, mod_ii hm, div_ii hm hl, i1]
      exact fin_len List.length_set
    exact ⟨_, _, e, ⟨ns, _, b, s, rfl, dv _ ha, hb, hs, hs2⟩, hmod0 _, hmod1 _⟩
/-! ### the start -/
noncomputable def lStart : S := sSet 1 (e2 fAdd (e2 fMod (e1 fInt (e2 fAdd (e2 fMul (eVar 1) (eC (.int 48271))) (eVar 2))) (eC (.int 2147483629))) (eC (.int 1)))
noncomputable def bStart : S := sCons (sSet 1 (eC (.int 7))) (sCons (sFor (.nm 2) (iView 0) lStart) (sRet (eLst (aCons (e1 fList (eVar 0)) (aCons (eC (.int 0)) (aCons (eC (.int 0)) (aCons (eVar 1) (aNil))))))))
noncomputable def fStart : Fn := mkFn 3 bStart
theorem start_ok (ns : List Int) (h : Heap) : ∃ st, fStart [.v (.scr (vInts ns))] h = .ok (.own st) h ∧ IsSt st := by
  unfold fStart
  rw [mkFn_eq]
  unfold bStart
  obtain ⟨r2, h2, e, p⟩ := for_ok (g := .nm 2) (it := iView 0) (b := lStart) (r := [some (.v (.scr (vInts ns))), some (.v (.int 7)), none]) (h := h) (h1 := h) (xs := vInts ns)
    (fun _ r h' => ∃ s x, r = [some (.v (.scr (vInts ns))), some (.v (.int s)), x] ∧ h' = h ∧ 0 ≤ s ∧ s ≤ 2147483629) rfl ⟨7, none, rfl, rfl, by decide, by decide⟩ fun k x r h' hk ⟨s, y, e1, e2, h0, h1⟩ => by
      subst e1 e2
      rw [List.getElem?_map] at hk
      cases hq : ns[k]? with
      | none => rw [hq] at hk; cases hk
      | some c =>
        rw [hq] at hk
        cases hk
        refine ⟨_, rfl, [some (.v (.scr (vInts ns))), some (.v (.int ((s * 48271 + c) % 2147483629 + 1))), some (.v (.int c))], h', .inl ?_, _, _, rfl, rfl, ?_⟩
        · unfold lStart
          simp only [q_C, q_Var, q_evv, q_evo, q_evw, q_e1, q_e1k, q_e2, q_e2k, q_e2j, q_aNil, q_aCons, q_ack, q_acj, q_argv, q_argo, q_argw, q_keeps, q_keepsN, q_kpc, q_keepv, q_keepo, q_Tup, q_etk, q_etj, q_Lst, q_elk, q_elj, q_Call, q_If, q_ift, q_iff, q_tB, q_tbk, q_tTru, q_ttk, q_tAnd, q_takt, q_takf, q_tOr, q_tokt, q_tokf, q_tNot, q_tnk, q_tYes, q_And, q_ndk, q_ndt, q_ndf, q_Or, q_ork, q_ort, q_orf, q_Not, q_ntk, q_ntj, q_trN, q_trB, q_trI, q_trT, q_trR, q_trO, q_trW, q_Chain, q_chk, q_chj, q_chit, q_chif, q_sNil, q_sPass, q_sCons, q_sSet, q_ssv, q_sso, q_sOwn, q_sok, q_sHeap, q_shk, q_sFrz, q_sfj, q_sExpr, q_sxk, q_sRet, q_srv, q_sro, q_sRetOwn, q_roj, q_sRetN, q_sBreak, q_sCont, q_sIf, q_sift, q_siff, q_sApp, q_sapj, q_sapv, q_sapo, q_sExt, q_sexj, q_sexk, q_sexm, q_llo, q_llw, q_llr, q_sSetIx, q_sixv, q_sixo, q_sixj, q_sixl, q_sixm, q_sSetHp, q_hpv, q_hpo, q_hpj, q_hpl, q_hpm, q_hpn, q_sAugHp, q_agk, q_agj, q_agl, q_agm, q_agn, q_ago, q_agp, q_sUnp, q_unk, q_setc, q_setn, q_sPar2, q_p2v, q_p2o, q_p2jv, q_p2jo, q_sAug, q_auj, q_aul, q_aumv, q_aumo, q_sWhile, q_wht, q_whf, q_frk, q_forN, q_forC, q_flk, q_putN, q_putT, q_iok, q_ioj, q_svT, q_svR, q_svS, q_svO, q_seT, q_seR, q_seS, q_seO, q_seW, q_iView, q_ivw, q_ivv, q_iRng1, q_irk, q_Sl, q_slk1, q_slk2, q_slk3, q_ePN, q_ePS, q_epk, q_cutT, q_cutR, q_cutS, q_cutO, q_cutW, q_SlSt, q_stk1, q_stk2, q_stk3, q_revO, q_revR, q_revW, q_LR, q_lrk, q_lrj, q_iRng2, q_r2k, q_r2j, q_iRng3, q_r3k, q_r3j, q_r3i, q_sUnpL, q_ulk, q_ulj, q_lkO, q_lkR, q_lkW, q_lkT, q_sExtA, q_xaj, q_xak, q_xam, q_laO, q_laW, q_laR, q_laT, q_LR3, q_l3k, q_l3j, q_l3i, q_sSetSl, q_ssk2, q_ssj, q_ssl, q_ssm, q_ssn, opt_some, opt_none, EO.bind_ok, EO.bind_ex, EO.then_ok, EO.then_ex, SO.seq_nx, SO.seq_rt, SO.seq_bk, SO.seq_ct, SO.seq_ex, SO.turn_nx, SO.turn_ct, SO.turn_bk, SO.turn_rt, SO.turn_ex, add_ii, sub_ii, and_ii, or_ii, xor_ii, lt_ii, le_ii, gt_ii, ge_ii, max_ii, min_ii, neg_i, abs_i, int_i, eq_ii, ne_ii, len_tup, len_ro, len_own, len_view, list_tup, list_ro, list_scr, list_own, list_view, tuple_tup, tuple_ro, tuple_own, tuple_view, at0, at1, at2, at3, ix_tup, ix_ro, ix_own, ix_view, Option.map_some, line, List.getElem?_cons_zero, List.getElem?_cons_succ, List.getElem?_nil, List.set_cons_zero, List.set_cons_succ, List.set_nil, List.length_cons, List.length_nil, List.map_cons, List.map_nil, List.cons_append, List.nil_append, List.replicate, Bool.not_true, Bool.not_false, if_true, if_false, Bool.false_eq_true, reduceIte, Nat.reduceAdd, Nat.reduceSub, Nat.reduceLeDiff, Nat.reduceEqDiff, decide_true, decide_false, mul_ii (hmul_seed h0 h1), mod_ii (show (0 : Int) < 2147483629 by decide)]
        · omega
  obtain ⟨s, y, e1, e2, h0, h1⟩ := p
  subst e1 e2
  refine ⟨[.ro (vInts ns), .int 0, .int 0, .int s], ?_, ⟨ns, 0, 0, s, rfl, by decide, by decide, h0, h1⟩⟩
  have l4 : 0 + 1 + 1 + 1 + 1 ≤ line := by decide
  simp only [q_C, q_Var, q_evv, q_evo, q_evw, q_e1, q_e1k, q_e2, q_e2k, q_e2j, q_aNil, q_aCons, q_ack, q_acj, q_argv, q_argo, q_argw, q_keeps, q_keepsN, q_kpc, q_keepv, q_keepo, q_Tup, q_etk, q_etj, q_Lst, q_elk, q_elj, q_Call, q_If, q_ift, q_iff, q_tB, q_tbk, q_tTru, q_ttk, q_tAnd, q_takt, q_takf, q_tOr, q_tokt, q_tokf, q_tNot, q_tnk, q_tYes, q_And, q_ndk, q_ndt, q_ndf, q_Or, q_ork, q_ort, q_orf, q_Not, q_ntk, q_ntj, q_trN, q_trB, q_trI, q_trT, q_trR, q_trO, q_trW, q_Chain, q_chk, q_chj, q_chit, q_chif, q_sNil, q_sPass, q_sCons, q_sSet, q_ssv, q_sso, q_sOwn, q_sok, q_sHeap, q_shk, q_sFrz, q_sfj, q_sExpr, q_sxk, q_sRet, q_srv, q_sro, q_sRetOwn, q_roj, q_sRetN, q_sBreak, q_sCont, q_sIf, q_sift, q_siff, q_sApp, q_sapj, q_sapv, q_sapo, q_sExt, q_sexj, q_sexk, q_sexm, q_llo, q_llw, q_llr, q_sSetIx, q_sixv, q_sixo, q_sixj, q_sixl, q_sixm, q_sSetHp, q_hpv, q_hpo, q_hpj, q_hpl, q_hpm, q_hpn, q_sAugHp, q_agk, q_agj, q_agl, q_agm, q_agn, q_ago, q_agp, q_sUnp, q_unk, q_setc, q_setn, q_sPar2, q_p2v, q_p2o, q_p2jv, q_p2jo, q_sAug, q_auj, q_aul, q_aumv, q_aumo, q_sWhile, q_wht, q_whf, q_frk, q_forN, q_forC, q_flk, q_putN, q_putT, q_iok, q_ioj, q_svT, q_svR, q_svS, q_svO, q_seT, q_seR, q_seS, q_seO, q_seW, q_iView, q_ivw, q_ivv, q_iRng1, q_irk, q_Sl, q_slk1, q_slk2, q_slk3, q_ePN, q_ePS, q_epk, q_cutT, q_cutR, q_cutS, q_cutO, q_cutW, q_SlSt, q_stk1, q_stk2, q_stk3, q_revO, q_revR, q_revW, q_LR, q_lrk, q_lrj, q_iRng2, q_r2k, q_r2j, q_iRng3, q_r3k, q_r3j, q_r3i, q_sUnpL, q_ulk, q_ulj, q_lkO, q_lkR, q_lkW, q_lkT, q_sExtA, q_xaj, q_xak, q_xam, q_laO, q_laW, q_laR, q_laT, q_LR3, q_l3k, q_l3j, q_l3i, q_sSetSl, q_ssk2, q_ssj, q_ssl, q_ssm, q_ssn, opt_some, opt_none, EO.bind_ok, EO.bind_ex, EO.then_ok, EO.then_ex, SO.seq_nx, SO.seq_rt, SO.seq_bk, SO.seq_ct, SO.seq_ex, SO.turn_nx, SO.turn_ct, SO.turn_bk, SO.turn_rt, SO.turn_ex, add_ii, sub_ii, and_ii, or_ii, xor_ii, lt_ii, le_ii, gt_ii, ge_ii, max_ii, min_ii, neg_i, abs_i, int_i, eq_ii, ne_ii, len_tup, len_ro, len_own, len_view, list_tup, list_ro, list_scr, list_own, list_view, tuple_tup, tuple_ro, tuple_own, tuple_view, at0, at1, at2, at3, ix_tup, ix_ro, ix_own, ix_view, Option.map_some, line, List.getElem?_cons_zero, List.getElem?_cons_succ, List.getElem?_nil, List.set_cons_zero, List.set_cons_succ, List.set_nil, List.length_cons, List.length_nil, List.map_cons, List.map_nil, List.cons_append, List.nil_append, List.replicate, Bool.not_true, Bool.not_false, if_true, if_false, Bool.false_eq_true, reduceIte, Nat.reduceAdd, Nat.reduceSub, Nat.reduceLeDiff, Nat.reduceEqDiff, decide_true, decide_false, e, l4]
  exact fin_self
end SM

/-! SMBits: numbers of bits; loops that fold. -/
namespace SM
theorem n_and (a b : Nat) : PySem.Builtin.bitAnd (a : Int) (b : Int) = ((a &&& b : Nat) : Int) := by
  rw [PyProof.Rows.bitAnd_pp (Int.natCast_nonneg a) (Int.natCast_nonneg b), Int.toNat_natCast, Int.toNat_natCast]
theorem n_or (a b : Nat) : PySem.Builtin.bitOr (a : Int) (b : Int) = ((a ||| b : Nat) : Int) := by
  rw [L2.bitOr_nn (Int.natCast_nonneg a) (Int.natCast_nonneg b), Int.toNat_natCast, Int.toNat_natCast]
theorem n_xor (a b : Nat) : PySem.Builtin.bitXor (a : Int) (b : Int) = ((a ^^^ b : Nat) : Int) := by
  rw [Bits.bitXor_pp (Int.natCast_nonneg a) (Int.natCast_nonneg b), Int.toNat_natCast, Int.toNat_natCast]
theorem n_mul2 (a k : Nat) : (a : Int) * 2 ^ k = ((a * 2 ^ k : Nat) : Int) := by
  rw [Int.natCast_mul, PySem.W.kbt_cast]
theorem n_div2 (a k : Nat) : (a : Int) / 2 ^ k = ((a / 2 ^ k : Nat) : Int) := by
  rw [Int.natCast_ediv, PySem.W.kbt_cast]
theorem n_mod2 (a k : Nat) : (a : Int) % 2 ^ k = ((a % 2 ^ k : Nat) : Int) := by
  rw [Int.natCast_emod, PySem.W.kbt_cast]
theorem n_mask (a k : Nat) : PySem.Builtin.bitAnd (a : Int) (2 ^ k - 1) = ((a % 2 ^ k : Nat) : Int) := by
  rw [PySem.W.kbt_mask, n_mod2]
/-- an or of bits and what is turned out above: an xor -/
theorem rot_or (n w k : Nat) (hw : w < 2 ^ n) (hk : k ≤ n) : (w * 2 ^ k ||| w / 2 ^ (n - k)) % 2 ^ n = (w * 2 ^ k) % 2 ^ n ^^^ w / 2 ^ (n - k) := by
  refine Nat.eq_of_testBit_eq fun i => ?_
  rw [← Nat.shiftLeft_eq, ← Nat.shiftRight_eq_div_pow]
  simp only [Nat.testBit_mod_two_pow, Nat.testBit_or, Nat.testBit_xor, Nat.testBit_shiftLeft, Nat.testBit_shiftRight]
  by_cases h1 : i < k
  · have h2 : i < n := by omega
    have h3 : ¬ (i ≥ k) := by omega
    simp [h2, h3]
  · have h2 : w.testBit (n - k + i) = false := Nat.testBit_lt_two_pow (Nat.lt_of_lt_of_le hw (Nat.pow_le_pow_right (by decide) (by omega)))
    rw [h2]
    simp
theorem rot_lt (n w k : Nat) : (w * 2 ^ k ||| w / 2 ^ (n - k)) % 2 ^ n < 2 ^ n := Nat.mod_lt _ (Nat.two_pow_pos n)
theorem intBits_nat {a n : Nat} (h : a < 2 ^ (n + 1)) : PySem.Builtin.Int.intBits (a : Int) ≤ n + 1 := bits_lt n (Int.natCast_nonneg a) (by rw [← PySem.W.kbt_cast]; exact Int.ofNat_lt.mpr h)
/-- a loop that folds -/
theorem for_fold {α : Type} {g : Tg} {it : I} {b : S} {r : Env} {h h1 : Heap} {xs : List Val} (F : α → Val → α) (R : α → Env → Heap → Prop) (a0 : α) (hi : it r h = .ok (xs, []) h1) (p : R a0 r h1)
    (st : ∀ (x : Val), x ∈ xs → ∀ (a : α) (r : Env) (h : Heap), R a r h → ∃ r1, g.put x r = some r1 ∧ ∃ r2 h2, b r1 h = .nx r2 h2 ∧ R (F a x) r2 h2) :
    ∃ r2 h2, sFor g it b r h = .nx r2 h2 ∧ R (xs.foldl F a0) r2 h2 := by
  obtain ⟨r2, h2, e, q⟩ := for_ok (g := g) (b := b) (fun k r h => R ((xs.take k).foldl F a0) r h) hi p fun k x r h hk q => by
    obtain ⟨r1, e1, r2, h2, eb, q2⟩ := st x (List.mem_of_getElem? hk) _ r h q
    refine ⟨r1, e1, r2, h2, .inl eb, ?_⟩
    show R ((xs.take (k + 1)).foldl F a0) r2 h2
    rw [List.take_add_one, hk, List.foldl_append]
    exact q2
  rw [List.take_length] at q
  exact ⟨r2, h2, e, q⟩
theorem upTo_mem : ∀ (n : Nat) (lo : Int) (x : Val), x ∈ upTo lo n → ∃ i : Nat, i < n ∧ x = .int (lo + i)
  | 0, lo, x, h => by
    unfold upTo at h
    cases h
  | n + 1, lo, x, h => by
    unfold upTo at h
    rcases List.mem_cons.mp h with h | h
    · exact ⟨0, by omega, by rw [h]; simp⟩
    · obtain ⟨i, hi, e⟩ := upTo_mem n (lo + 1) x h
      exact ⟨i + 1, by omega, by rw [e]; congr 1; omega⟩
theorem upTo_map : ∀ (n : Nat) (lo : Nat), upTo (lo : Int) n = (List.range' lo n).map fun i : Nat => Val.int (i : Int)
  | 0, lo => by
    unfold upTo
    rfl
  | n + 1, lo => by
    unfold upTo
    rw [List.range'_succ, List.map_cons, ← upTo_map n (lo + 1)]
    rfl
/-! ### lists of naturals -/
theorem vNats_ints (ns : List Nat) : vNats ns = vInts (ns.map fun n : Nat => (n : Int)) := by
  show _ = List.map _ (List.map _ _)
  rw [List.map_map]
  rfl
theorem nats_get {ns : List Nat} {i : Nat} (h : i < ns.length) : (vNats ns)[i]? = some (.int (ns[i] : Nat)) := by
  rw [List.getElem?_map, List.getElem?_eq_getElem h]
  rfl
theorem nats_at {ns : List Nat} {i : Nat} (h : i < ns.length) : L2.atI (vNats ns) (i : Int) = some (.int (ns[i] : Nat)) := L2.atI_nat (nats_get h)
theorem nats_set {ns : List Nat} {i n : Nat} : (vNats ns).set i (.int (n : Int)) = vNats (ns.set i n) := by
  show List.set (List.map _ _) _ _ = List.map _ _
  rw [List.map_set]
theorem nats_len {ns : List Nat} : (vNats ns).length = ns.length := List.length_map _
theorem ixN_nat {n i : Nat} (h : i < n) : L2.ixN n (i : Int) = some i := by
  rw [ixN_lit (Int.natCast_nonneg i) (Int.ofNat_lt.mpr h), Int.toNat_natCast]
theorem under_ints (n : Nat) : ∀ ns : List Int, underAll n (vInts ns)
  | [] => by show underAll n []; unfold underAll; trivial
  | i :: ns => by
    show underAll n (.int i :: vInts ns)
    unfold underAll
    exact ⟨by unfold Val.under; trivial, under_ints n ns⟩
theorem under_nats (n : Nat) (ns : List Nat) : underAll n (vNats ns) := by
  rw [vNats_ints]
  exact under_ints n _
theorem under_tup (n : Nat) (ns : List Nat) : (RV.v (.tup (vNats ns))).under n := by
  unfold RV.under Val.under
  exact under_nats n ns
theorem under_own (n : Nat) (ns : List Nat) : (RV.own (vNats ns)).under n := by
  unfold RV.under
  exact under_nats n ns
/-! ### equality of lists of numbers -/
theorem eq_tt {h : Heap} {ns ms : List Int} : fEq false h (.v (.tup (vInts ns))) (.v (.tup (vInts ms))) = some (.v (.bool (decide (ns = ms)))) := by
  unfold fEq toDR
  dsimp only
  unfold toD
  rw [toDs_ints, toDs_ints]
  dsimp only [Option.map_some]
  rw [if_pos ⟨shaped_tup ns, shaped_tup ms⟩]
  unfold PySem.PyData.eqv
  rw [eqv_ints]
  rfl
theorem eq_ll {h : Heap} {x y : RV} {ns ms : List Int} (hx : toDR h x = (toDs (vInts ns)).map .list) (hy : toDR h y = (toDs (vInts ms)).map .list) : fEq false h x y = some (.v (.bool (decide (ns = ms)))) := by
  unfold fEq
  rw [hx, hy, toDs_ints, toDs_ints]
  dsimp only [Option.map_some]
  rw [if_pos ⟨shaped_lst ns, shaped_lst ms⟩]
  unfold PySem.PyData.eqv
  rw [eqv_ints]
  rfl
theorem eq_or {h : Heap} {ns ms : List Int} : fEq false h (.own (vInts ns)) (.v (.ro (vInts ms))) = some (.v (.bool (decide (ns = ms)))) := eq_ll rfl (by unfold toDR; dsimp only; unfold toD; rfl)
end SM

/-! Lk50: the mirrors of law_k50_joined_blocks, printed by gen.py. -/
namespace Lk50
open PySem (Str Stmt)
open SM
open L2 (defScope defBody defArgs FnScope op_lt op_le op_gt op_ge)
def topS (i : Nat) : Stmt := PySem.Challenge.pw_saltmill_k50_joined_blocks.main.body.getD i (.Pass ⟨0, 0, 0, 0⟩)
def k_MASK : Val := (.int 18446744073709551615)
def k_HALF : Val := (.int 4294967295)
def k_QUARTERS : Val := (.tup [(.tup [(.int 0), (.int 4), (.int 8), (.int 12)]), (.tup [(.int 1), (.int 5), (.int 9), (.int 13)]), (.tup [(.int 2), (.int 6), (.int 10), (.int 14)]), (.tup [(.int 3), (.int 7), (.int 11), (.int 15)]), (.tup [(.int 0), (.int 5), (.int 10), (.int 15)]), (.tup [(.int 1), (.int 6), (.int 11), (.int 12)]), (.tup [(.int 2), (.int 7), (.int 8), (.int 13)]), (.tup [(.int 3), (.int 4), (.int 9), (.int 14)])])
abbrev s_rotate : Stmt := topS 7
abbrev n_rotate : List Str := ["word", "count"]
theorem sc_rotate : FnScope n_rotate ["word", "count"] (defScope s_rotate) := ⟨rfl, rfl, rfl, by decide +kernel, rfl, by decide +kernel, by decide +kernel⟩
noncomputable def b_rotate : S := sRet (e2 fAnd (e2 fOr (e2 fShr (eVar 0) (eVar 1)) (e2 fShl (eVar 0) (e2 fSub (eC (.int 64)) (eVar 1)))) (eC k_MASK))
noncomputable def f_rotate : Fn := mkFn 2 b_rotate
abbrev s_blend : Stmt := topS 8
abbrev n_blend : List Str := ["one", "other"]
theorem sc_blend : FnScope n_blend ["one", "other"] (defScope s_blend) := ⟨rfl, rfl, rfl, by decide +kernel, rfl, by decide +kernel, by decide +kernel⟩
noncomputable def b_blend : S := sRet (e2 fAnd (e2 fAdd (e2 fAdd (eVar 0) (eVar 1)) (e2 fMul (e2 fMul (eC (.int 2)) (e2 fAnd (eVar 0) (eC k_HALF))) (e2 fAnd (eVar 1) (eC k_HALF)))) (eC k_MASK))
noncomputable def f_blend : Fn := mkFn 2 b_blend
abbrev s_stir : Stmt := topS 9
abbrev n_stir : List Str := ["v", "a", "b", "c", "d"]
theorem sc_stir : FnScope n_stir ["v"] (defScope s_stir) := ⟨rfl, rfl, rfl, by decide +kernel, rfl, by decide +kernel, by decide +kernel⟩
noncomputable def l_stir_1 : S := sCons (sSetHp (eVar 0) (eVar 1) (eCall f_blend (aCons (e2 fIx (eVar 0) (eVar 1)) (aCons (e2 fIx (eVar 0) (eVar 2)) (aNil))))) (sCons (sSetHp (eVar 0) (eVar 4) (eCall f_rotate (aCons (e2 fXor (e2 fIx (eVar 0) (eVar 4)) (e2 fIx (eVar 0) (eVar 1))) (aCons (eC (.int 32)) (aNil))))) (sCons (sSetHp (eVar 0) (eVar 3) (eCall f_blend (aCons (e2 fIx (eVar 0) (eVar 3)) (aCons (e2 fIx (eVar 0) (eVar 4)) (aNil))))) (sCons (sSetHp (eVar 0) (eVar 2) (eCall f_rotate (aCons (e2 fXor (e2 fIx (eVar 0) (eVar 2)) (e2 fIx (eVar 0) (eVar 3))) (aCons (eC (.int 24)) (aNil))))) (sCons (sSetHp (eVar 0) (eVar 1) (eCall f_blend (aCons (e2 fIx (eVar 0) (eVar 1)) (aCons (e2 fIx (eVar 0) (eVar 2)) (aNil))))) (sCons (sSetHp (eVar 0) (eVar 4) (eCall f_rotate (aCons (e2 fXor (e2 fIx (eVar 0) (eVar 4)) (e2 fIx (eVar 0) (eVar 1))) (aCons (eC (.int 16)) (aNil))))) (sCons (sSetHp (eVar 0) (eVar 3) (eCall f_blend (aCons (e2 fIx (eVar 0) (eVar 3)) (aCons (e2 fIx (eVar 0) (eVar 4)) (aNil))))) (sSetHp (eVar 0) (eVar 2) (eCall f_rotate (aCons (e2 fXor (e2 fIx (eVar 0) (eVar 2)) (e2 fIx (eVar 0) (eVar 3))) (aCons (eC (.int 63)) (aNil)))))))))))
noncomputable def b_stir : S := sFor (.tp [1, 2, 3, 4]) (iSeq (eC k_QUARTERS)) l_stir_1
noncomputable def f_stir : Fn := mkFn 5 b_stir
abbrev s_demand_block : Stmt := topS 10
abbrev n_demand_block : List Str := ["words"]
theorem sc_demand_block : FnScope n_demand_block ["words"] (defScope s_demand_block) := ⟨rfl, rfl, rfl, by decide +kernel, rfl, by decide +kernel, by decide +kernel⟩
noncomputable def b_demand_block : S := sIf (tB (e2 (fEq true) (e1 fLen (eVar 0)) (eC (.int 128)))) (sNever) (sNil)
noncomputable def f_demand_block : Fn := mkFn 1 b_demand_block
abbrev s_xor_blocks : Stmt := topS 13
abbrev n_xor_blocks : List Str := ["first", "second", "one", "other"]
theorem sc_xor_blocks : FnScope n_xor_blocks ["first", "second"] (defScope s_xor_blocks) := ⟨rfl, rfl, rfl, by decide +kernel, rfl, by decide +kernel, by decide +kernel⟩
noncomputable def c_xor_blocks_1 : E := e2 fXor (eVar 2) (eVar 3)
noncomputable def b_xor_blocks : S := sRet (e1 fTuple (eLc [2, 3] (.tp [2, 3]) (iZip seqE (eVar 0) (eVar 1)) (tYes) c_xor_blocks_1))
noncomputable def f_xor_blocks : Fn := mkFn 4 b_xor_blocks
abbrev s_join_blocks : Stmt := topS 11
abbrev n_join_blocks : List Str := ["first", "second", "r", "z", "k", "row", "places", "start", "column", "place", "word"]
theorem sc_join_blocks : FnScope n_join_blocks ["first", "second"] (defScope s_join_blocks) := ⟨rfl, rfl, rfl, by decide +kernel, rfl, by decide +kernel, by decide +kernel⟩
noncomputable def l_join_blocks_1 : S := sCons (sHeap 5 (eSl (eVar 3) (some (eVar 4)) (some (e2 fAdd (eVar 4) (eC (.int 16)))))) (sCons (sExpr (eCall f_stir (aCons (eVar 5) (aNil)))) (sSetSl 3 (eVar 4) (e2 fAdd (eVar 4) (eC (.int 16))) (eVar 5)))
noncomputable def l_join_blocks_2 : S := sExtA 6 (eLst (aCons (eVar 7) (aCons (e2 fAdd (eVar 7) (eC (.int 1))) (aNil))))
noncomputable def c_join_blocks_3 : E := e2 fIx (eVar 3) (eVar 9)
noncomputable def l_join_blocks_4 : S := sSetIx 3 (eVar 9) (eVar 10)
noncomputable def l_join_blocks_5 : S := sCons (sOwn 6 (eLst (aNil))) (sCons (sFor (.nm 7) (iRng3 (eVar 4) (eC (.int 128)) (eC (.int 16))) l_join_blocks_2) (sCons (sHeap 8 (eLc [9] (.nm 9) (iSeqE (eVar 6)) (tYes) c_join_blocks_3)) (sCons (sExpr (eCall f_stir (aCons (eVar 8) (aNil)))) (sCons (sFrz 6) (sFor (.tp [9, 10]) (iZip seqV (eVar 6) (eVar 8)) l_join_blocks_4)))))
noncomputable def b_join_blocks : S := sCons (sExpr (eCall f_demand_block (aCons (eVar 0) (aNil)))) (sCons (sExpr (eCall f_demand_block (aCons (eVar 1) (aNil)))) (sCons (sSet 2 (eCall f_xor_blocks (aCons (eVar 0) (aCons (eVar 1) (aNil))))) (sCons (sOwn 3 (e1 fList (eVar 2))) (sCons (sFor (.nm 4) (iRng3 (eC (.int 0)) (eC (.int 128)) (eC (.int 16))) l_join_blocks_1) (sCons (sFor (.nm 4) (iRng3 (eC (.int 0)) (eC (.int 16)) (eC (.int 2))) l_join_blocks_5) (sRet (eCall f_xor_blocks (aCons (eVar 3) (aCons (eVar 2) (aNil))))))))))
noncomputable def f_join_blocks : Fn := mkFn 11 b_join_blocks
abbrev s_join_blocks2 : Stmt := topS 15
abbrev n_join_blocks2 : List Str := ["first", "second"]
theorem sc_join_blocks2 : FnScope n_join_blocks2 ["first", "second"] (defScope s_join_blocks2) := ⟨rfl, rfl, rfl, by decide +kernel, rfl, by decide +kernel, by decide +kernel⟩
noncomputable def b_join_blocks2 : S := sRet (eCall f_join_blocks (aCons (eVar 0) (aCons (eVar 1) (aNil))))
noncomputable def f_join_blocks2 : Fn := mkFn 2 b_join_blocks2
abbrev s__law_start : Stmt := topS 18
abbrev n__law_start : List Str := ["script", "seed", "cell"]
theorem sc__law_start : FnScope n__law_start ["script"] (defScope s__law_start) := ⟨rfl, rfl, rfl, by decide +kernel, rfl, by decide +kernel, by decide +kernel⟩
noncomputable def l__law_start_1 : S := sSet 1 (e2 fAdd (e2 fMod (e1 fInt (e2 fAdd (e2 fMul (eVar 1) (eC (.int 48271))) (eVar 2))) (eC (.int 2147483629))) (eC (.int 1)))
noncomputable def b__law_start : S := sCons (sSet 1 (eC (.int 7))) (sCons (sFor (.nm 2) (iView 0) l__law_start_1) (sRet (eLst (aCons (e1 fList (eVar 0)) (aCons (eC (.int 0)) (aCons (eC (.int 0)) (aCons (eVar 1) (aNil))))))))
noncomputable def f__law_start : Fn := mkFn 3 b__law_start
abbrev s__law_draw : Stmt := topS 19
abbrev n__law_draw : List Str := ["state", "many", "value"]
theorem sc__law_draw : FnScope n__law_draw ["state", "many"] (defScope s__law_draw) := ⟨rfl, rfl, rfl, by decide +kernel, rfl, by decide +kernel, by decide +kernel⟩
noncomputable def b__law_draw : S := sCons (sIf (tAnd (tB (e2 (fEq false) (e2 fIx (eVar 0) (eC (.int 1))) (eC (.int 0)))) (tB (e2 fGe (e2 fIx (eVar 0) (eC (.int 2))) (e1 fLen (e2 fIx (eVar 0) (eC (.int 0))))))) (sCons (sSetHp (eVar 0) (eC (.int 3)) (e2 fMod (e1 fInt (e2 fAdd (e2 fMul (e2 fIx (eVar 0) (eC (.int 3))) (eC (.int 48271))) (eC (.int 69621)))) (eC (.int 2147483629)))) (sRet (e2 fMod (e1 fInt (e2 fDiv (e2 fIx (eVar 0) (eC (.int 3))) (eC (.int 13)))) (eVar 1)))) (sNil)) (sCons (sIf (tB (e2 (fEq false) (e2 fIx (eVar 0) (eC (.int 1))) (eC (.int 0)))) (sCons (sSetHp (eVar 0) (eC (.int 1)) (e1 fAbs (e2 fIx (e2 fIx (eVar 0) (eC (.int 0))) (e2 fIx (eVar 0) (eC (.int 2)))))) (sAugHp (fI0 fun i j => .int (i + j)) (eVar 0) (eC (.int 2)) (eC (.int 1)))) (sNil)) (sCons (sSet 2 (e2 fMod (e1 fInt (e2 fIx (eVar 0) (eC (.int 1)))) (eVar 1))) (sCons (sSetHp (eVar 0) (eC (.int 1)) (e2 fDiv (e2 fIx (eVar 0) (eC (.int 1))) (eVar 1))) (sRet (eVar 2)))))
noncomputable def f__law_draw : Fn := mkFn 3 b__law_draw
abbrev s__law_block : Stmt := topS 20
abbrev n__law_block : List Str := ["state", "block", "k"]
theorem sc__law_block : FnScope n__law_block ["state"] (defScope s__law_block) := ⟨rfl, rfl, rfl, by decide +kernel, rfl, by decide +kernel, by decide +kernel⟩
noncomputable def l__law_block_1 : S := sApp 1 (e2 fAdd (e2 fMul (eCall f__law_draw (aCons (eVar 0) (aCons (eC (.int 4294967296)) (aNil)))) (eC (.int 4294967296))) (eCall f__law_draw (aCons (eVar 0) (aCons (eC (.int 4294967296)) (aNil)))))
noncomputable def b__law_block : S := sCons (sOwn 1 (eLst (aNil))) (sCons (sFor (.nm 2) (iRng1 (eC (.int 128))) l__law_block_1) (sCons (sIf (tB (e2 (fEq false) (eCall f__law_draw (aCons (eVar 0) (aCons (eC (.int 4)) (aNil)))) (eC (.int 3)))) (sSetIx 1 (eCall f__law_draw (aCons (eVar 0) (aCons (eC (.int 128)) (aNil)))) (e2 fIx (eLst (aCons (eC (.int 0)) (aCons (eC (.int 18446744073709551615)) (aCons (eC (.int 4294967295)) (aNil))))) (eCall f__law_draw (aCons (eVar 0) (aCons (eC (.int 3)) (aNil)))))) (sNil)) (sRetOwn 1)))
noncomputable def f__law_block : Fn := mkFn 3 b__law_block
abbrev s__law_half : Stmt := topS 21
abbrev n__law_half : List Str := ["z", "a", "b", "d", "bits", "first", "second", "total", "turned"]
theorem sc__law_half : FnScope n__law_half ["z", "a", "b", "d", "bits"] (defScope s__law_half) := ⟨rfl, rfl, rfl, by decide +kernel, rfl, by decide +kernel, by decide +kernel⟩
noncomputable def b__law_half : S := sCons (sPar2 5 6 (e2 fIx (eVar 0) (eVar 1)) (e2 fIx (eVar 0) (eVar 2))) (sCons (sSet 7 (e2 fAdd (e2 fAdd (eVar 5) (eVar 6)) (e2 fMul (e2 fMul (eC (.int 2)) (e1 fInt (e2 fMod (e1 fInt (eVar 5)) (eC (.int 4294967296))))) (e1 fInt (e2 fMod (e1 fInt (eVar 6)) (eC (.int 4294967296))))))) (sCons (sSetHp (eVar 0) (eVar 1) (e2 fMod (e1 fInt (eVar 7)) (eC (.int 18446744073709551616)))) (sCons (sSet 8 (e2 fXor (e2 fIx (eVar 0) (eVar 3)) (e2 fIx (eVar 0) (eVar 1)))) (sSetHp (eVar 0) (eVar 3) (e2 fOr (e2 fShr (eVar 8) (eVar 4)) (e2 fMod (e1 fInt (e2 fShl (eVar 8) (e2 fSub (eC (.int 64)) (eVar 4)))) (eC (.int 18446744073709551616))))))))
noncomputable def f__law_half : Fn := mkFn 9 b__law_half
abbrev s__law_stirred : Stmt := topS 22
abbrev n__law_stirred : List Str := ["z", "places", "quarters", "quarter", "a", "b", "c", "d", "k"]
theorem sc__law_stirred : FnScope n__law_stirred ["z", "places"] (defScope s__law_stirred) := ⟨rfl, rfl, rfl, by decide +kernel, rfl, by decide +kernel, by decide +kernel⟩
noncomputable def c__law_stirred_1 : E := e2 fIx (eVar 1) (eVar 8)
noncomputable def l__law_stirred_2 : S := sCons (sUnpL [4, 5, 6, 7] (eLc [8] (.nm 8) (iSeqE (eVar 3)) (tYes) c__law_stirred_1)) (sCons (sExpr (eCall f__law_half (aCons (eVar 0) (aCons (eVar 4) (aCons (eVar 5) (aCons (eVar 7) (aCons (eC (.int 32)) (aNil)))))))) (sCons (sExpr (eCall f__law_half (aCons (eVar 0) (aCons (eVar 6) (aCons (eVar 7) (aCons (eVar 5) (aCons (eC (.int 24)) (aNil)))))))) (sCons (sExpr (eCall f__law_half (aCons (eVar 0) (aCons (eVar 4) (aCons (eVar 5) (aCons (eVar 7) (aCons (eC (.int 16)) (aNil)))))))) (sExpr (eCall f__law_half (aCons (eVar 0) (aCons (eVar 6) (aCons (eVar 7) (aCons (eVar 5) (aCons (eC (.int 63)) (aNil)))))))))))
noncomputable def b__law_stirred : S := sCons (sSet 2 (eTup (aCons (eTup (aCons (eC (.int 0)) (aCons (eC (.int 4)) (aCons (eC (.int 8)) (aCons (eC (.int 12)) (aNil)))))) (aCons (eTup (aCons (eC (.int 1)) (aCons (eC (.int 5)) (aCons (eC (.int 9)) (aCons (eC (.int 13)) (aNil)))))) (aCons (eTup (aCons (eC (.int 2)) (aCons (eC (.int 6)) (aCons (eC (.int 10)) (aCons (eC (.int 14)) (aNil)))))) (aCons (eTup (aCons (eC (.int 3)) (aCons (eC (.int 7)) (aCons (eC (.int 11)) (aCons (eC (.int 15)) (aNil)))))) (aNil))))))) (sCons (sSet 2 (e2 fAdd (eVar 2) (eTup (aCons (eTup (aCons (eC (.int 0)) (aCons (eC (.int 5)) (aCons (eC (.int 10)) (aCons (eC (.int 15)) (aNil)))))) (aCons (eTup (aCons (eC (.int 1)) (aCons (eC (.int 6)) (aCons (eC (.int 11)) (aCons (eC (.int 12)) (aNil)))))) (aCons (eTup (aCons (eC (.int 2)) (aCons (eC (.int 7)) (aCons (eC (.int 8)) (aCons (eC (.int 13)) (aNil)))))) (aCons (eTup (aCons (eC (.int 3)) (aCons (eC (.int 4)) (aCons (eC (.int 9)) (aCons (eC (.int 14)) (aNil)))))) (aNil)))))))) (sFor (.nm 3) (iView 2) l__law_stirred_2))
noncomputable def f__law_stirred : Fn := mkFn 9 b__law_stirred
abbrev s__law_expected : Stmt := topS 23
abbrev n__law_expected : List Str := ["first", "second", "row", "k", "z", "places", "j"]
theorem sc__law_expected : FnScope n__law_expected ["first", "second"] (defScope s__law_expected) := ⟨rfl, rfl, rfl, by decide +kernel, rfl, by decide +kernel, by decide +kernel⟩
noncomputable def c__law_expected_1 : E := e2 fXor (e2 fIx (eVar 0) (eVar 3)) (e2 fIx (eVar 1) (eVar 3))
noncomputable def l__law_expected_2 : S := sExpr (eCall f__law_stirred (aCons (eVar 4) (aCons (eLR false (e2 fMul (eC (.int 16)) (eVar 3)) (e2 fAdd (e2 fMul (eC (.int 16)) (eVar 3)) (eC (.int 16)))) (aNil))))
noncomputable def l__law_expected_3 : S := sSet 5 (e2 fAdd (eVar 5) (eLst (aCons (e2 fAdd (e2 fMul (eC (.int 16)) (eVar 6)) (e2 fMul (eC (.int 2)) (eVar 3))) (aCons (e2 fAdd (e2 fAdd (e2 fMul (eC (.int 16)) (eVar 6)) (e2 fMul (eC (.int 2)) (eVar 3))) (eC (.int 1))) (aNil)))))
noncomputable def l__law_expected_4 : S := sCons (sSet 5 (eLst (aNil))) (sCons (sFor (.nm 6) (iRng1 (eC (.int 8))) l__law_expected_3) (sExpr (eCall f__law_stirred (aCons (eVar 4) (aCons (eVar 5) (aNil))))))
noncomputable def c__law_expected_5 : E := e2 fXor (e2 fIx (eVar 4) (eVar 3)) (e2 fIx (eVar 2) (eVar 3))
noncomputable def b__law_expected : S := sCons (sSet 2 (eLc [3] (.nm 3) (iRng1 (eC (.int 128))) (tYes) c__law_expected_1)) (sCons (sHeap 4 (e1 fList (eVar 2))) (sCons (sFor (.nm 3) (iRng1 (eC (.int 8))) l__law_expected_2) (sCons (sFor (.nm 3) (iRng1 (eC (.int 8))) l__law_expected_4) (sRet (e1 fTuple (eLc [3] (.nm 3) (iRng1 (eC (.int 128))) (tYes) c__law_expected_5))))))
noncomputable def f__law_expected : Fn := mkFn 7 b__law_expected
abbrev s_law : Stmt := topS 24
abbrev n_law : List Str := ["script", "state", "first", "second", "before", "actual", "word"]
theorem sc_law : FnScope n_law ["script"] (defScope s_law) := ⟨rfl, rfl, rfl, by decide +kernel, rfl, by decide +kernel, by decide +kernel⟩
noncomputable def l_law_1 : S := sIf (tOr (tNot (tB (e1 (fIs "int") (eVar 6)))) (tB (e1 (fIs "bool") (eVar 6)))) (sRet (eC (.bool false))) (sNil)
noncomputable def b_law : S := sCons (sHeap 1 (eCall f__law_start (aCons (eVar 0) (aNil)))) (sCons (sSet 2 (eCall f__law_block (aCons (eVar 1) (aNil)))) (sCons (sSet 3 (eCall f__law_block (aCons (eVar 1) (aNil)))) (sCons (sIf (tB (e2 (fEq false) (eCall f__law_draw (aCons (eVar 1) (aCons (eC (.int 6)) (aNil)))) (eC (.int 5)))) (sSet 3 (e1 fList (eVar 2))) (sNil)) (sCons (sSet 4 (eLst (aCons (e1 fList (eVar 2)) (aCons (e1 fList (eVar 3)) (aNil))))) (sCons (sSet 5 (eCall f_join_blocks2 (aCons (eVar 2) (aCons (e1 fTuple (eVar 3)) (aNil))))) (sCons (sIf (tOr (tNot (tB (e1 (fIs "tuple") (eVar 5)))) (tOr (tB (e2 (fEq true) (eVar 5) (eCall f__law_expected (aCons (eVar 2) (aCons (eVar 3) (aNil)))))) (tB (e2 (fEq true) (eLst (aCons (eVar 2) (aCons (eVar 3) (aNil)))) (eVar 4))))) (sRet (eC (.bool false))) (sNil)) (sCons (sFor (.nm 6) (iView 5) l_law_1) (sRet (e2 (fEq false) (eCall f_join_blocks2 (aCons (e1 fList (eVar 2)) (aCons (e1 fList (eVar 3)) (aNil)))) (eVar 5))))))))))
noncomputable def f_law : Fn := mkFn 7 b_law
/-- what the top has written -/
structure Tx (K : Frag) (mg : Mg) : Prop where
  g_rotate : Df K mg "rotate" "rotate" "rotate" s_rotate ["word", "count"]
  g_blend : Df K mg "blend" "blend" "blend" s_blend ["one", "other"]
  g_stir : Df K mg "stir" "stir" "stir" s_stir ["v"]
  g_demand_block : Df K mg "demand_block" "demand_block" "demand_block" s_demand_block ["words"]
  g_xor_blocks : Df K mg "xor_blocks" "xor_blocks" "xor_blocks" s_xor_blocks ["first", "second"]
  g_join_blocks : Df K mg "join_blocks_blocks" "join_blocks" "join_blocks" s_join_blocks ["first", "second"]
  g_join_blocks2 : Df K mg "join_blocks_filling" "join_blocks" "join_blocks" s_join_blocks2 ["first", "second"]
  g__law_start : Df K mg "_law_start" "_law_start" "_law_start" s__law_start ["script"]
  g__law_draw : Df K mg "_law_draw" "_law_draw" "_law_draw" s__law_draw ["state", "many"]
  g__law_block : Df K mg "_law_block" "_law_block" "_law_block" s__law_block ["state"]
  g__law_half : Df K mg "_law_half" "_law_half" "_law_half" s__law_half ["z", "a", "b", "d", "bits"]
  g__law_stirred : Df K mg "_law_stirred" "_law_stirred" "_law_stirred" s__law_stirred ["z", "places"]
  g__law_expected : Df K mg "_law_expected" "_law_expected" "_law_expected" s__law_expected ["first", "second"]
  m_MASK : Cs K mg "MASK" k_MASK
  m_HALF : Cs K mg "HALF" k_HALF
  m_QUARTERS : Cs K mg "QUARTERS" k_QUARTERS
  z_len : mg "len" = none
  z_zip : mg "zip" = none
  z_tuple : mg "tuple" = none
  z_list : mg "list" = none
  z_range : mg "range" = none
  z_int : mg "int" = none
  z_abs : mg "abs" = none
  z_isinstance : mg "isinstance" = none
  z_bool : mg "bool" = none
section
variable {P : PySem.Program} {w : PySem.World} {K : Frag} {mg : Mg} {base : PySem.Heap}
theorem p_rotate (t : Tx K mg) : BodyOk P w K mg base n_rotate "rotate" s_rotate 0 b_rotate := fun f cdv A outer s w0 Ex hr tk po => b_one (b_ret (s_and (s_or (s_shr (s_var 0) (s_var 1)) (s_shl (s_var 0) (s_sub (s_int) (s_var 1)))) (s_cst t.m_MASK)))
theorem d_rotate (t : Tx K mg) : DefOk P w K mg base 1 "rotate" 2 f_rotate := def_ok t.g_rotate sc_rotate (by decide) (p_rotate t)
theorem p_blend (t : Tx K mg) : BodyOk P w K mg base n_blend "blend" s_blend 0 b_blend := fun f cdv A outer s w0 Ex hr tk po => b_one (b_ret (s_and (s_add (s_add (s_var 0) (s_var 1)) (s_mul (s_mul (s_int) (s_and (s_var 0) (s_cst t.m_HALF))) (s_and (s_var 1) (s_cst t.m_HALF)))) (s_cst t.m_MASK)))
theorem d_blend (t : Tx K mg) : DefOk P w K mg base 1 "blend" 2 f_blend := def_ok t.g_blend sc_blend (by decide) (p_blend t)
theorem p_stir (t : Tx K mg) : BodyOk P w K mg base n_stir "stir" s_stir 1 b_stir := fun f cdv A outer s w0 Ex hr tk po => b_one (b_for po rfl (i_seq (s_cst t.m_QUARTERS)) (g_tp rfl (gs_cons 1 sc_stir.nd (gs_cons 2 sc_stir.nd (gs_cons 3 sc_stir.nd (gs_cons 4 sc_stir.nd (gs_nil)))))) (fun _ _ => b_cons (b_setHp (s_call (d_blend t) tk hr (anS (anS an0)) (sa_cons (s_ix (s_var 0) (s_var 1)) (sa_cons (s_ix (s_var 0) (s_var 2)) (sa_nil)))) (s_var 0) (s_var 1)) (b_cons (b_setHp (s_call (d_rotate t) tk hr (anS (anS an0)) (sa_cons (s_xor (s_ix (s_var 0) (s_var 4)) (s_ix (s_var 0) (s_var 1))) (sa_cons (s_int) (sa_nil)))) (s_var 0) (s_var 4)) (b_cons (b_setHp (s_call (d_blend t) tk hr (anS (anS an0)) (sa_cons (s_ix (s_var 0) (s_var 3)) (sa_cons (s_ix (s_var 0) (s_var 4)) (sa_nil)))) (s_var 0) (s_var 3)) (b_cons (b_setHp (s_call (d_rotate t) tk hr (anS (anS an0)) (sa_cons (s_xor (s_ix (s_var 0) (s_var 2)) (s_ix (s_var 0) (s_var 3))) (sa_cons (s_int) (sa_nil)))) (s_var 0) (s_var 2)) (b_cons (b_setHp (s_call (d_blend t) tk hr (anS (anS an0)) (sa_cons (s_ix (s_var 0) (s_var 1)) (sa_cons (s_ix (s_var 0) (s_var 2)) (sa_nil)))) (s_var 0) (s_var 1)) (b_cons (b_setHp (s_call (d_rotate t) tk hr (anS (anS an0)) (sa_cons (s_xor (s_ix (s_var 0) (s_var 4)) (s_ix (s_var 0) (s_var 1))) (sa_cons (s_int) (sa_nil)))) (s_var 0) (s_var 4)) (b_cons (b_setHp (s_call (d_blend t) tk hr (anS (anS an0)) (sa_cons (s_ix (s_var 0) (s_var 3)) (sa_cons (s_ix (s_var 0) (s_var 4)) (sa_nil)))) (s_var 0) (s_var 3)) (b_one (b_setHp (s_call (d_rotate t) tk hr (anS (anS an0)) (sa_cons (s_xor (s_ix (s_var 0) (s_var 2)) (s_ix (s_var 0) (s_var 3))) (sa_cons (s_int) (sa_nil)))) (s_var 0) (s_var 2)))))))))))
theorem d_stir (t : Tx K mg) : DefOk P w K mg base 2 "stir" 1 f_stir := def_ok t.g_stir sc_stir (by decide) (p_stir t)
theorem p_demand_block (t : Tx K mg) : BodyOk P w K mg base n_demand_block "demand_block" s_demand_block 0 b_demand_block := fun f cdv A outer s w0 Ex hr tk po => b_one (b_if (st_ne hr.units (s_len (by rfl) t.z_len (s_var 0)) (s_int)) (b_one (b_never)) (b_nil))
theorem d_demand_block (t : Tx K mg) : DefOk P w K mg base 1 "demand_block" 1 f_demand_block := def_ok t.g_demand_block sc_demand_block (by decide) (p_demand_block t)
theorem p_xor_blocks (t : Tx K mg) : BodyOk P w K mg base n_xor_blocks "xor_blocks" s_xor_blocks 0 b_xor_blocks := fun f cdv A outer s w0 Ex hr tk po => b_one (b_ret (s_tuple (by rfl) t.z_tuple (s_lc (own := [("one", 2), ("other", 3)]) rfl sc_xor_blocks.nd (by exact blk_by (N := n_xor_blocks) (sc := defScope s_xor_blocks) (by decide +kernel)) (i_zipE (by rfl) t.z_zip (s_var 0) (s_var 1)) (by exact fun i h => h) (fun _ _ _ _ _ => g_tp rfl (gs_cons 2 sc_xor_blocks.nd (gs_cons 3 sc_xor_blocks.nd (gs_nil)))) (fun _ _ _ _ _ => t_yes) (fun _ _ _ _ _ => s_xor (s_var 2) (s_var 3)))))
theorem d_xor_blocks (t : Tx K mg) : DefOk P w K mg base 1 "xor_blocks" 2 f_xor_blocks := def_ok t.g_xor_blocks sc_xor_blocks (by decide) (p_xor_blocks t)
theorem p_join_blocks (t : Tx K mg) : BodyOk P w K mg base n_join_blocks "join_blocks" s_join_blocks 2 b_join_blocks := fun f cdv A outer s w0 Ex hr tk po => b_cons (b_expr (s_call (d_demand_block t) tk hr (anS an0) (sa_cons (s_var 0) (sa_nil)))) (b_cons (b_expr (s_call (d_demand_block t) tk hr (anS an0) (sa_cons (s_var 1) (sa_nil)))) (b_cons (b_set' (g_set sc_join_blocks.nd (s_call (d_xor_blocks t) tk hr (anS (anS an0)) (sa_cons (s_var 0) (sa_cons (s_var 1) (sa_nil)))))) (b_cons (b_own' (g_set sc_join_blocks.nd (s_list (by rfl) t.z_list (s_var 2)))) (b_cons (b_for po rfl (i_rng3 (by rfl) t.z_range (s_int) (s_int) (s_int)) (g_nm 4 sc_join_blocks.nd) (fun _ _ => b_cons (b_heap (g_set sc_join_blocks.nd (s_sl (s_var 3) (p_some (s_var 4)) (p_some (s_add (s_var 4) (s_int)))))) (b_cons (b_expr (s_call (d_stir t) tk hr (anS an0) (sa_cons (s_var 5) (sa_nil)))) (b_one (b_setSl 3 (s_var 5) (s_var 4) (s_add (s_var 4) (s_int))))))) (b_cons (b_for po rfl (i_rng3 (by rfl) t.z_range (s_int) (s_int) (s_int)) (g_nm 4 sc_join_blocks.nd) (fun _ _ => b_cons (b_own' (g_set sc_join_blocks.nd (s_lst (sa_nil)))) (b_cons (b_for po rfl (i_rng3 (by rfl) t.z_range (s_var 4) (s_int) (s_int)) (g_nm 7 sc_join_blocks.nd) (fun _ _ => b_one (b_extA 6 (s_lst (sa_cons (s_var 7) (sa_cons (s_add (s_var 7) (s_int)) (sa_nil))))))) (b_cons (b_heap (g_lc (own := [("place", 9)]) rfl sc_join_blocks.nd (by exact blk_by (N := n_join_blocks) (sc := defScope s_join_blocks) (by decide +kernel)) (i_seqE (s_var 6)) (by exact fun i h => h) (fun _ _ _ _ _ => g_nm 9 sc_join_blocks.nd) (fun _ _ _ _ _ => t_yes) (fun _ _ _ _ _ => s_ix (s_var 3) (s_var 9)) rfl)) (b_cons (b_expr (s_call (d_stir t) tk hr (anS an0) (sa_cons (s_var 8) (sa_nil)))) (b_one (b_frz 6 (b_for po rfl (i_zip (by rfl) t.z_zip (s_var 6) (s_var 8)) (g_tp rfl (gs_cons 9 sc_join_blocks.nd (gs_cons 10 sc_join_blocks.nd (gs_nil)))) (fun _ _ => b_one (b_setIx 3 (s_var 10) (s_var 9))))))))))) (b_one (b_ret (s_call (d_xor_blocks t) tk hr (anS (anS an0)) (sa_cons (s_var 3) (sa_cons (s_var 2) (sa_nil)))))))))))
theorem d_join_blocks (t : Tx K mg) : DefOk P w K mg base 3 "join_blocks_blocks" 2 f_join_blocks := def_ok t.g_join_blocks sc_join_blocks (by decide) (p_join_blocks t)
theorem p_join_blocks2 (t : Tx K mg) : BodyOk P w K mg base n_join_blocks2 "join_blocks" s_join_blocks2 3 b_join_blocks2 := fun f cdv A outer s w0 Ex hr tk po => b_one (b_ret (s_call (d_join_blocks t) tk hr (anS (anS an0)) (sa_cons (s_var 0) (sa_cons (s_var 1) (sa_nil)))))
theorem d_join_blocks2 (t : Tx K mg) : DefOk P w K mg base 4 "join_blocks_filling" 2 f_join_blocks2 := def_ok t.g_join_blocks2 sc_join_blocks2 (by decide) (p_join_blocks2 t)
theorem p__law_start (t : Tx K mg) : BodyOk P w K mg base n__law_start "_law_start" s__law_start 0 b__law_start := fun f cdv A outer s w0 Ex hr tk po => b_cons (b_set' (g_set sc__law_start.nd (s_int))) (b_cons (b_for po rfl (i_view 0) (g_nm 2 sc__law_start.nd) (fun _ _ => b_one (b_set' (g_set sc__law_start.nd (s_add (s_mod (s_toInt (by rfl) t.z_int (s_add (s_mul (s_var 1) (s_int)) (s_var 2))) (s_int)) (s_int)))))) (b_one (b_ret (s_lst (sa_cons (s_list (by rfl) t.z_list (s_var 0)) (sa_cons (s_int) (sa_cons (s_int) (sa_cons (s_var 1) (sa_nil)))))))))
theorem d__law_start (t : Tx K mg) : DefOk P w K mg base 1 "_law_start" 1 f__law_start := def_ok t.g__law_start sc__law_start (by decide) (p__law_start t)
theorem p__law_draw (t : Tx K mg) : BodyOk P w K mg base n__law_draw "_law_draw" s__law_draw 0 b__law_draw := fun f cdv A outer s w0 Ex hr tk po => b_cons (b_if ((sw_and (st_eq hr.units (s_ix (s_var 0) (s_int)) (s_int)) (sw_and1 (st_ge (s_ix (s_var 0) (s_int)) (s_len (by rfl) t.z_len (s_ix (s_var 0) (s_int)))))).pt) (b_cons (b_setHp (s_mod (s_toInt (by rfl) t.z_int (s_add (s_mul (s_ix (s_var 0) (s_int)) (s_int)) (s_int))) (s_int)) (s_var 0) (s_int)) (b_one (b_ret (s_mod (s_toInt (by rfl) t.z_int (s_div (s_ix (s_var 0) (s_int)) (s_int))) (s_var 1))))) (b_nil)) (b_cons (b_if (st_eq hr.units (s_ix (s_var 0) (s_int)) (s_int)) (b_cons (b_setHp (s_abs (by rfl) t.z_abs (s_ix (s_ix (s_var 0) (s_int)) (s_ix (s_var 0) (s_int)))) (s_var 0) (s_int)) (b_one (b_augHpAdd (s_var 0) (s_int) (s_int)))) (b_nil)) (b_cons (b_set' (g_set sc__law_draw.nd (s_mod (s_toInt (by rfl) t.z_int (s_ix (s_var 0) (s_int))) (s_var 1)))) (b_cons (b_setHp (s_div (s_ix (s_var 0) (s_int)) (s_var 1)) (s_var 0) (s_int)) (b_one (b_ret (s_var 2))))))
theorem d__law_draw (t : Tx K mg) : DefOk P w K mg base 1 "_law_draw" 2 f__law_draw := def_ok t.g__law_draw sc__law_draw (by decide) (p__law_draw t)
theorem p__law_block (t : Tx K mg) : BodyOk P w K mg base n__law_block "_law_block" s__law_block 1 b__law_block := fun f cdv A outer s w0 Ex hr tk po => b_cons (b_own' (g_set sc__law_block.nd (s_lst (sa_nil)))) (b_cons (b_for po rfl (i_rng1 (by rfl) t.z_range (s_int)) (g_nm 2 sc__law_block.nd) (fun _ _ => b_one (b_app 1 (s_add (s_mul (s_call (d__law_draw t) tk hr (anS (anS an0)) (sa_cons (s_var 0) (sa_cons (s_int) (sa_nil)))) (s_int)) (s_call (d__law_draw t) tk hr (anS (anS an0)) (sa_cons (s_var 0) (sa_cons (s_int) (sa_nil)))))))) (b_cons (b_if (st_eq hr.units (s_call (d__law_draw t) tk hr (anS (anS an0)) (sa_cons (s_var 0) (sa_cons (s_int) (sa_nil)))) (s_int)) (b_one (b_setIx 1 (s_ix (s_lst (sa_cons (s_int) (sa_cons (s_int) (sa_cons (s_int) (sa_nil))))) (s_call (d__law_draw t) tk hr (anS (anS an0)) (sa_cons (s_var 0) (sa_cons (s_int) (sa_nil))))) (s_call (d__law_draw t) tk hr (anS (anS an0)) (sa_cons (s_var 0) (sa_cons (s_int) (sa_nil)))))) (b_nil)) (b_one (b_retOwn (i := 1)))))
theorem d__law_block (t : Tx K mg) : DefOk P w K mg base 2 "_law_block" 1 f__law_block := def_ok t.g__law_block sc__law_block (by decide) (p__law_block t)
theorem p__law_half (t : Tx K mg) : BodyOk P w K mg base n__law_half "_law_half" s__law_half 0 b__law_half := fun f cdv A outer s w0 Ex hr tk po => b_cons (b_par2 5 6 rfl sc__law_half.nd (s_ix (s_var 0) (s_var 1)) (s_ix (s_var 0) (s_var 2))) (b_cons (b_set' (g_set sc__law_half.nd (s_add (s_add (s_var 5) (s_var 6)) (s_mul (s_mul (s_int) (s_toInt (by rfl) t.z_int (s_mod (s_toInt (by rfl) t.z_int (s_var 5)) (s_int)))) (s_toInt (by rfl) t.z_int (s_mod (s_toInt (by rfl) t.z_int (s_var 6)) (s_int))))))) (b_cons (b_setHp (s_mod (s_toInt (by rfl) t.z_int (s_var 7)) (s_int)) (s_var 0) (s_var 1)) (b_cons (b_set' (g_set sc__law_half.nd (s_xor (s_ix (s_var 0) (s_var 3)) (s_ix (s_var 0) (s_var 1))))) (b_one (b_setHp (s_or (s_shr (s_var 8) (s_var 4)) (s_mod (s_toInt (by rfl) t.z_int (s_shl (s_var 8) (s_sub (s_int) (s_var 4)))) (s_int))) (s_var 0) (s_var 3))))))
theorem d__law_half (t : Tx K mg) : DefOk P w K mg base 1 "_law_half" 5 f__law_half := def_ok t.g__law_half sc__law_half (by decide) (p__law_half t)
theorem p__law_stirred (t : Tx K mg) : BodyOk P w K mg base n__law_stirred "_law_stirred" s__law_stirred 1 b__law_stirred := fun f cdv A outer s w0 Ex hr tk po => b_cons (b_set' (g_set sc__law_stirred.nd (s_tup (sa_cons (s_tup (sa_cons (s_int) (sa_cons (s_int) (sa_cons (s_int) (sa_cons (s_int) (sa_nil)))))) (sa_cons (s_tup (sa_cons (s_int) (sa_cons (s_int) (sa_cons (s_int) (sa_cons (s_int) (sa_nil)))))) (sa_cons (s_tup (sa_cons (s_int) (sa_cons (s_int) (sa_cons (s_int) (sa_cons (s_int) (sa_nil)))))) (sa_cons (s_tup (sa_cons (s_int) (sa_cons (s_int) (sa_cons (s_int) (sa_cons (s_int) (sa_nil)))))) (sa_nil)))))))) (b_cons (b_set' (g_set sc__law_stirred.nd (s_add (s_var 2) (s_tup (sa_cons (s_tup (sa_cons (s_int) (sa_cons (s_int) (sa_cons (s_int) (sa_cons (s_int) (sa_nil)))))) (sa_cons (s_tup (sa_cons (s_int) (sa_cons (s_int) (sa_cons (s_int) (sa_cons (s_int) (sa_nil)))))) (sa_cons (s_tup (sa_cons (s_int) (sa_cons (s_int) (sa_cons (s_int) (sa_cons (s_int) (sa_nil)))))) (sa_cons (s_tup (sa_cons (s_int) (sa_cons (s_int) (sa_cons (s_int) (sa_cons (s_int) (sa_nil)))))) (sa_nil))))))))) (b_one (b_for po rfl (i_view 2) (g_nm 3 sc__law_stirred.nd) (fun _ _ => b_cons (b_unpL rfl (s_lc (own := [("k", 8)]) rfl sc__law_stirred.nd (by exact blk_by (N := n__law_stirred) (sc := defScope s__law_stirred) (by decide +kernel)) (i_seqE (s_var 3)) (by exact fun i h => h) (fun _ _ _ _ _ => g_nm 8 sc__law_stirred.nd) (fun _ _ _ _ _ => t_yes) (fun _ _ _ _ _ => s_ix (s_var 1) (s_var 8))) (gs_cons 4 sc__law_stirred.nd (gs_cons 5 sc__law_stirred.nd (gs_cons 6 sc__law_stirred.nd (gs_cons 7 sc__law_stirred.nd (gs_nil)))))) (b_cons (b_expr (s_call (d__law_half t) tk hr (anS (anS (anS (anS (anS an0))))) (sa_cons (s_var 0) (sa_cons (s_var 4) (sa_cons (s_var 5) (sa_cons (s_var 7) (sa_cons (s_int) (sa_nil)))))))) (b_cons (b_expr (s_call (d__law_half t) tk hr (anS (anS (anS (anS (anS an0))))) (sa_cons (s_var 0) (sa_cons (s_var 6) (sa_cons (s_var 7) (sa_cons (s_var 5) (sa_cons (s_int) (sa_nil)))))))) (b_cons (b_expr (s_call (d__law_half t) tk hr (anS (anS (anS (anS (anS an0))))) (sa_cons (s_var 0) (sa_cons (s_var 4) (sa_cons (s_var 5) (sa_cons (s_var 7) (sa_cons (s_int) (sa_nil)))))))) (b_one (b_expr (s_call (d__law_half t) tk hr (anS (anS (anS (anS (anS an0))))) (sa_cons (s_var 0) (sa_cons (s_var 6) (sa_cons (s_var 7) (sa_cons (s_var 5) (sa_cons (s_int) (sa_nil))))))))))))))))
theorem d__law_stirred (t : Tx K mg) : DefOk P w K mg base 2 "_law_stirred" 2 f__law_stirred := def_ok t.g__law_stirred sc__law_stirred (by decide) (p__law_stirred t)
theorem p__law_expected (t : Tx K mg) : BodyOk P w K mg base n__law_expected "_law_expected" s__law_expected 2 b__law_expected := fun f cdv A outer s w0 Ex hr tk po => b_cons (b_set' (g_set sc__law_expected.nd (s_lc (own := [("k", 3)]) rfl sc__law_expected.nd (by exact blk_by (N := n__law_expected) (sc := defScope s__law_expected) (by decide +kernel)) (i_e (i_rng1 (by rfl) t.z_range (s_int))) (by exact fun i h => h) (fun _ _ _ _ _ => g_nm 3 sc__law_expected.nd) (fun _ _ _ _ _ => t_yes) (fun _ _ _ _ _ => s_xor (s_ix (s_var 0) (s_var 3)) (s_ix (s_var 1) (s_var 3)))))) (b_cons (b_heap (g_set sc__law_expected.nd (s_list (by rfl) t.z_list (s_var 2)))) (b_cons (b_for po rfl (i_rng1 (by rfl) t.z_range (s_int)) (g_nm 3 sc__law_expected.nd) (fun _ _ => b_one (b_expr (s_call (d__law_stirred t) tk hr (anS (anS an0)) (sa_cons (s_var 4) (sa_cons (s_listRg2 rfl (by rfl) t.z_list (by rfl) t.z_range (s_mul (s_int) (s_var 3)) (s_add (s_mul (s_int) (s_var 3)) (s_int))) (sa_nil))))))) (b_cons (b_for po rfl (i_rng1 (by rfl) t.z_range (s_int)) (g_nm 3 sc__law_expected.nd) (fun _ _ => b_cons (b_set' (g_set sc__law_expected.nd (s_lst (sa_nil)))) (b_cons (b_for po rfl (i_rng1 (by rfl) t.z_range (s_int)) (g_nm 6 sc__law_expected.nd) (fun _ _ => b_one (b_set' (g_set sc__law_expected.nd (s_add (s_var 5) (s_lst (sa_cons (s_add (s_mul (s_int) (s_var 6)) (s_mul (s_int) (s_var 3))) (sa_cons (s_add (s_add (s_mul (s_int) (s_var 6)) (s_mul (s_int) (s_var 3))) (s_int)) (sa_nil))))))))) (b_one (b_expr (s_call (d__law_stirred t) tk hr (anS (anS an0)) (sa_cons (s_var 4) (sa_cons (s_var 5) (sa_nil))))))))) (b_one (b_ret (s_tuple (by rfl) t.z_tuple (s_lc (own := [("k", 3)]) rfl sc__law_expected.nd (by exact blk_by (N := n__law_expected) (sc := defScope s__law_expected) (by decide +kernel)) (i_e (i_rng1 (by rfl) t.z_range (s_int))) (by exact fun i h => h) (fun _ _ _ _ _ => g_nm 3 sc__law_expected.nd) (fun _ _ _ _ _ => t_yes) (fun _ _ _ _ _ => s_xor (s_ix (s_var 4) (s_var 3)) (s_ix (s_var 2) (s_var 3))))))))))
theorem d__law_expected (t : Tx K mg) : DefOk P w K mg base 3 "_law_expected" 2 f__law_expected := def_ok t.g__law_expected sc__law_expected (by decide) (p__law_expected t)
theorem p_law (t : Tx K mg) : BodyOk P w K mg base n_law "law" s_law 4 b_law := fun f cdv A outer s w0 Ex hr tk po => b_cons (b_heap (g_set sc_law.nd (s_call (d__law_start t) tk hr (anS an0) (sa_cons (s_var 0) (sa_nil))))) (b_cons (b_set' (g_set sc_law.nd (s_call (d__law_block t) tk hr (anS an0) (sa_cons (s_var 1) (sa_nil))))) (b_cons (b_set' (g_set sc_law.nd (s_call (d__law_block t) tk hr (anS an0) (sa_cons (s_var 1) (sa_nil))))) (b_cons (b_if (st_eq hr.units (s_call (d__law_draw t) tk hr (anS (anS an0)) (sa_cons (s_var 1) (sa_cons (s_int) (sa_nil)))) (s_int)) (b_one (b_set' (g_set sc_law.nd (s_list (by rfl) t.z_list (s_var 2))))) (b_nil)) (b_cons (b_set' (g_set sc_law.nd (s_lst (sa_cons (s_list (by rfl) t.z_list (s_var 2)) (sa_cons (s_list (by rfl) t.z_list (s_var 3)) (sa_nil)))))) (b_cons (b_set' (g_set sc_law.nd (s_call (d_join_blocks2 t) tk hr (anS (anS an0)) (sa_cons (s_var 2) (sa_cons (s_tuple (by rfl) t.z_tuple (s_var 3)) (sa_nil)))))) (b_cons (b_if ((sw_or (st_not (st_val (s_isT kit_tuple (by rfl) t.z_isinstance (by rfl) t.z_tuple (by decide +kernel) (s_var 5)))) (sw_or (st_ne hr.units (s_var 5) (s_call (d__law_expected t) tk hr (anS (anS an0)) (sa_cons (s_var 2) (sa_cons (s_var 3) (sa_nil))))) (sw_or1 (st_ne hr.units (s_lst (sa_cons (s_var 2) (sa_cons (s_var 3) (sa_nil)))) (s_var 4))))).pt) (b_one (b_ret (s_bl))) (b_nil)) (b_cons (b_for po rfl (i_view 5) (g_nm 6 sc_law.nd) (fun _ _ => b_one (b_if ((sw_or (st_not (st_val (s_isT kit_int (by rfl) t.z_isinstance (by rfl) t.z_int (by decide +kernel) (s_var 6)))) (sw_or1 (st_val (s_isT kit_bool (by rfl) t.z_isinstance (by rfl) t.z_bool (by decide +kernel) (s_var 6))))).pt) (b_one (b_ret (s_bl))) (b_nil)))) (b_one (b_ret (s_eq hr.units (s_call (d_join_blocks2 t) tk hr (anS (anS an0)) (sa_cons (s_list (by rfl) t.z_list (s_var 2)) (sa_cons (s_list (by rfl) t.z_list (s_var 3)) (sa_nil)))) (s_var 5)))))))))))
end
theorem all_mk {l : PySem.W.OpenLaw} {w : PySem.World} {K : Frag} {h : PySem.Heap} {mg : Mg} {fa : Addr} (X : K.In h) (G : h.Ns PySem.mainGlobals mg) (hfa : mg "law" = some (.ref fa))
    {f1 : Addr} {od1 an1 : Option Addr} {sl1 : Array (Option PySem.Value)} {oc1 kV1 dc1 pm1 cd1 ct1 : PySem.Value} {f2 : Addr} {od2 an2 : Option Addr} {sl2 : Array (Option PySem.Value)} {oc2 kV2 dc2 pm2 cd2 ct2 : PySem.Value} {f3 : Addr} {od3 an3 : Option Addr} {sl3 : Array (Option PySem.Value)} {oc3 kV3 dc3 pm3 cd3 ct3 : PySem.Value} {f4 : Addr} {od4 an4 : Option Addr} {sl4 : Array (Option PySem.Value)} {oc4 kV4 dc4 pm4 cd4 ct4 : PySem.Value} {f5 : Addr} {od5 an5 : Option Addr} {sl5 : Array (Option PySem.Value)} {oc5 kV5 dc5 pm5 cd5 ct5 : PySem.Value} {f6 : Addr} {od6 an6 : Option Addr} {sl6 : Array (Option PySem.Value)} {oc6 kV6 dc6 pm6 cd6 ct6 : PySem.Value} {f7 : Addr} {od7 an7 : Option Addr} {sl7 : Array (Option PySem.Value)} {oc7 kV7 dc7 pm7 cd7 ct7 : PySem.Value} {f8 : Addr} {od8 an8 : Option Addr} {sl8 : Array (Option PySem.Value)} {oc8 kV8 dc8 pm8 cd8 ct8 : PySem.Value} {f9 : Addr} {od9 an9 : Option Addr} {sl9 : Array (Option PySem.Value)} {oc9 kV9 dc9 pm9 cd9 ct9 : PySem.Value} {f10 : Addr} {od10 an10 : Option Addr} {sl10 : Array (Option PySem.Value)} {oc10 kV10 dc10 pm10 cd10 ct10 : PySem.Value} {f11 : Addr} {od11 an11 : Option Addr} {sl11 : Array (Option PySem.Value)} {oc11 kV11 dc11 pm11 cd11 ct11 : PySem.Value} {f12 : Addr} {od12 an12 : Option Addr} {sl12 : Array (Option PySem.Value)} {oc12 kV12 dc12 pm12 cd12 ct12 : PySem.Value} {f13 : Addr} {od13 an13 : Option Addr} {sl13 : Array (Option PySem.Value)} {oc13 kV13 dc13 pm13 cd13 ct13 : PySem.Value} {f14 : Addr} {od14 an14 : Option Addr} {sl14 : Array (Option PySem.Value)} {oc14 kV14 dc14 pm14 cd14 ct14 : PySem.Value} {t15_1 : PySem.Tok} {t16_1 : PySem.Tok} {q17_1 : Addr} {qd17_1 : Option Addr} {qn17_1 : Nat} {qs17_1 : Array (Option PySem.Value)} {q17_2 : Addr} {qd17_2 : Option Addr} {qn17_2 : Nat} {qs17_2 : Array (Option PySem.Value)} {t17_3 : PySem.Tok} {t17_4 : PySem.Tok} {t17_5 : PySem.Tok} {t17_6 : PySem.Tok} {q17_7 : Addr} {qd17_7 : Option Addr} {qn17_7 : Nat} {qs17_7 : Array (Option PySem.Value)} {t17_8 : PySem.Tok} {t17_9 : PySem.Tok} {t17_10 : PySem.Tok} {t17_11 : PySem.Tok} {q17_12 : Addr} {qd17_12 : Option Addr} {qn17_12 : Nat} {qs17_12 : Array (Option PySem.Value)} {t17_13 : PySem.Tok} {t17_14 : PySem.Tok} {t17_15 : PySem.Tok} {t17_16 : PySem.Tok} {q17_17 : Addr} {qd17_17 : Option Addr} {qn17_17 : Nat} {qs17_17 : Array (Option PySem.Value)} {t17_18 : PySem.Tok} {t17_19 : PySem.Tok} {t17_20 : PySem.Tok} {t17_21 : PySem.Tok} {q17_22 : Addr} {qd17_22 : Option Addr} {qn17_22 : Nat} {qs17_22 : Array (Option PySem.Value)} {t17_23 : PySem.Tok} {t17_24 : PySem.Tok} {t17_25 : PySem.Tok} {t17_26 : PySem.Tok} {q17_27 : Addr} {qd17_27 : Option Addr} {qn17_27 : Nat} {qs17_27 : Array (Option PySem.Value)} {t17_28 : PySem.Tok} {t17_29 : PySem.Tok} {t17_30 : PySem.Tok} {t17_31 : PySem.Tok} {q17_32 : Addr} {qd17_32 : Option Addr} {qn17_32 : Nat} {qs17_32 : Array (Option PySem.Value)} {t17_33 : PySem.Tok} {t17_34 : PySem.Tok} {t17_35 : PySem.Tok} {t17_36 : PySem.Tok} {q17_37 : Addr} {qd17_37 : Option Addr} {qn17_37 : Nat} {qs17_37 : Array (Option PySem.Value)} {t17_38 : PySem.Tok} {t17_39 : PySem.Tok} {t17_40 : PySem.Tok} {t17_41 : PySem.Tok}
    (a1 : PySem.W.nsIn K PySem.mainGlobals "rotate" = some (some (.ref f1))) (l1 : K.lookup f1 = some ⟨oc1, od1, .func (PySem.W.fnOf "rotate" "rotate" (defArgs s_rotate) (defBody s_rotate) (defScope s_rotate) .none kV1 dc1 pm1 an1 cd1 ct1), sl1⟩) (c1 : PySem.W.codeIn K cd1 "rotate" = true) (e1 : PySem.W.keepIn K (.ref f1) = true)
    (a2 : PySem.W.nsIn K PySem.mainGlobals "blend" = some (some (.ref f2))) (l2 : K.lookup f2 = some ⟨oc2, od2, .func (PySem.W.fnOf "blend" "blend" (defArgs s_blend) (defBody s_blend) (defScope s_blend) .none kV2 dc2 pm2 an2 cd2 ct2), sl2⟩) (c2 : PySem.W.codeIn K cd2 "blend" = true) (e2 : PySem.W.keepIn K (.ref f2) = true)
    (a3 : PySem.W.nsIn K PySem.mainGlobals "stir" = some (some (.ref f3))) (l3 : K.lookup f3 = some ⟨oc3, od3, .func (PySem.W.fnOf "stir" "stir" (defArgs s_stir) (defBody s_stir) (defScope s_stir) .none kV3 dc3 pm3 an3 cd3 ct3), sl3⟩) (c3 : PySem.W.codeIn K cd3 "stir" = true) (e3 : PySem.W.keepIn K (.ref f3) = true)
    (a4 : PySem.W.nsIn K PySem.mainGlobals "demand_block" = some (some (.ref f4))) (l4 : K.lookup f4 = some ⟨oc4, od4, .func (PySem.W.fnOf "demand_block" "demand_block" (defArgs s_demand_block) (defBody s_demand_block) (defScope s_demand_block) .none kV4 dc4 pm4 an4 cd4 ct4), sl4⟩) (c4 : PySem.W.codeIn K cd4 "demand_block" = true) (e4 : PySem.W.keepIn K (.ref f4) = true)
    (a5 : PySem.W.nsIn K PySem.mainGlobals "xor_blocks" = some (some (.ref f5))) (l5 : K.lookup f5 = some ⟨oc5, od5, .func (PySem.W.fnOf "xor_blocks" "xor_blocks" (defArgs s_xor_blocks) (defBody s_xor_blocks) (defScope s_xor_blocks) .none kV5 dc5 pm5 an5 cd5 ct5), sl5⟩) (c5 : PySem.W.codeIn K cd5 "xor_blocks" = true) (e5 : PySem.W.keepIn K (.ref f5) = true)
    (a6 : PySem.W.nsIn K PySem.mainGlobals "join_blocks_blocks" = some (some (.ref f6))) (l6 : K.lookup f6 = some ⟨oc6, od6, .func (PySem.W.fnOf "join_blocks" "join_blocks" (defArgs s_join_blocks) (defBody s_join_blocks) (defScope s_join_blocks) .none kV6 dc6 pm6 an6 cd6 ct6), sl6⟩) (c6 : PySem.W.codeIn K cd6 "join_blocks" = true) (e6 : PySem.W.keepIn K (.ref f6) = true)
    (a7 : PySem.W.nsIn K PySem.mainGlobals "join_blocks_filling" = some (some (.ref f7))) (l7 : K.lookup f7 = some ⟨oc7, od7, .func (PySem.W.fnOf "join_blocks" "join_blocks" (defArgs s_join_blocks2) (defBody s_join_blocks2) (defScope s_join_blocks2) .none kV7 dc7 pm7 an7 cd7 ct7), sl7⟩) (c7 : PySem.W.codeIn K cd7 "join_blocks" = true) (e7 : PySem.W.keepIn K (.ref f7) = true)
    (a8 : PySem.W.nsIn K PySem.mainGlobals "_law_start" = some (some (.ref f8))) (l8 : K.lookup f8 = some ⟨oc8, od8, .func (PySem.W.fnOf "_law_start" "_law_start" (defArgs s__law_start) (defBody s__law_start) (defScope s__law_start) .none kV8 dc8 pm8 an8 cd8 ct8), sl8⟩) (c8 : PySem.W.codeIn K cd8 "_law_start" = true) (e8 : PySem.W.keepIn K (.ref f8) = true)
    (a9 : PySem.W.nsIn K PySem.mainGlobals "_law_draw" = some (some (.ref f9))) (l9 : K.lookup f9 = some ⟨oc9, od9, .func (PySem.W.fnOf "_law_draw" "_law_draw" (defArgs s__law_draw) (defBody s__law_draw) (defScope s__law_draw) .none kV9 dc9 pm9 an9 cd9 ct9), sl9⟩) (c9 : PySem.W.codeIn K cd9 "_law_draw" = true) (e9 : PySem.W.keepIn K (.ref f9) = true)
    (a10 : PySem.W.nsIn K PySem.mainGlobals "_law_block" = some (some (.ref f10))) (l10 : K.lookup f10 = some ⟨oc10, od10, .func (PySem.W.fnOf "_law_block" "_law_block" (defArgs s__law_block) (defBody s__law_block) (defScope s__law_block) .none kV10 dc10 pm10 an10 cd10 ct10), sl10⟩) (c10 : PySem.W.codeIn K cd10 "_law_block" = true) (e10 : PySem.W.keepIn K (.ref f10) = true)
    (a11 : PySem.W.nsIn K PySem.mainGlobals "_law_half" = some (some (.ref f11))) (l11 : K.lookup f11 = some ⟨oc11, od11, .func (PySem.W.fnOf "_law_half" "_law_half" (defArgs s__law_half) (defBody s__law_half) (defScope s__law_half) .none kV11 dc11 pm11 an11 cd11 ct11), sl11⟩) (c11 : PySem.W.codeIn K cd11 "_law_half" = true) (e11 : PySem.W.keepIn K (.ref f11) = true)
    (a12 : PySem.W.nsIn K PySem.mainGlobals "_law_stirred" = some (some (.ref f12))) (l12 : K.lookup f12 = some ⟨oc12, od12, .func (PySem.W.fnOf "_law_stirred" "_law_stirred" (defArgs s__law_stirred) (defBody s__law_stirred) (defScope s__law_stirred) .none kV12 dc12 pm12 an12 cd12 ct12), sl12⟩) (c12 : PySem.W.codeIn K cd12 "_law_stirred" = true) (e12 : PySem.W.keepIn K (.ref f12) = true)
    (a13 : PySem.W.nsIn K PySem.mainGlobals "_law_expected" = some (some (.ref f13))) (l13 : K.lookup f13 = some ⟨oc13, od13, .func (PySem.W.fnOf "_law_expected" "_law_expected" (defArgs s__law_expected) (defBody s__law_expected) (defScope s__law_expected) .none kV13 dc13 pm13 an13 cd13 ct13), sl13⟩) (c13 : PySem.W.codeIn K cd13 "_law_expected" = true) (e13 : PySem.W.keepIn K (.ref f13) = true)
    (a14 : PySem.W.nsIn K PySem.mainGlobals "law" = some (some (.ref f14))) (l14 : K.lookup f14 = some ⟨oc14, od14, .func (PySem.W.fnOf "law" "law" (defArgs s_law) (defBody s_law) (defScope s_law) .none kV14 dc14 pm14 an14 cd14 ct14), sl14⟩) (c14 : PySem.W.codeIn K cd14 "law" = true) (e14 : PySem.W.keepIn K (.ref f14) = true)
    (b15 : PySem.W.nsIn K PySem.mainGlobals "MASK" = some (some (.int 18446744073709551615 t15_1)))
    (b16 : PySem.W.nsIn K PySem.mainGlobals "HALF" = some (some (.int 4294967295 t16_1)))
    (b17 : PySem.W.nsIn K PySem.mainGlobals "QUARTERS" = some (some (.ref q17_1)))
    (h17_1 : K.lookup q17_1 = some ⟨.type "tuple", qd17_1, .seq #[(.ref q17_2), (.ref q17_7), (.ref q17_12), (.ref q17_17), (.ref q17_22), (.ref q17_27), (.ref q17_32), (.ref q17_37)] qn17_1, qs17_1⟩)
    (h17_2 : K.lookup q17_2 = some ⟨.type "tuple", qd17_2, .seq #[(.int 0 t17_3), (.int 4 t17_4), (.int 8 t17_5), (.int 12 t17_6)] qn17_2, qs17_2⟩)
    (h17_7 : K.lookup q17_7 = some ⟨.type "tuple", qd17_7, .seq #[(.int 1 t17_8), (.int 5 t17_9), (.int 9 t17_10), (.int 13 t17_11)] qn17_7, qs17_7⟩)
    (h17_12 : K.lookup q17_12 = some ⟨.type "tuple", qd17_12, .seq #[(.int 2 t17_13), (.int 6 t17_14), (.int 10 t17_15), (.int 14 t17_16)] qn17_12, qs17_12⟩)
    (h17_17 : K.lookup q17_17 = some ⟨.type "tuple", qd17_17, .seq #[(.int 3 t17_18), (.int 7 t17_19), (.int 11 t17_20), (.int 15 t17_21)] qn17_17, qs17_17⟩)
    (h17_22 : K.lookup q17_22 = some ⟨.type "tuple", qd17_22, .seq #[(.int 0 t17_23), (.int 5 t17_24), (.int 10 t17_25), (.int 15 t17_26)] qn17_22, qs17_22⟩)
    (h17_27 : K.lookup q17_27 = some ⟨.type "tuple", qd17_27, .seq #[(.int 1 t17_28), (.int 6 t17_29), (.int 11 t17_30), (.int 12 t17_31)] qn17_27, qs17_27⟩)
    (h17_32 : K.lookup q17_32 = some ⟨.type "tuple", qd17_32, .seq #[(.int 2 t17_33), (.int 7 t17_34), (.int 8 t17_35), (.int 13 t17_36)] qn17_32, qs17_32⟩)
    (h17_37 : K.lookup q17_37 = some ⟨.type "tuple", qd17_37, .seq #[(.int 3 t17_38), (.int 4 t17_39), (.int 9 t17_40), (.int 14 t17_41)] qn17_37, qs17_37⟩)
    (b18 : PySem.W.nsIn K PySem.mainGlobals "len" = some none)
    (b19 : PySem.W.nsIn K PySem.mainGlobals "zip" = some none)
    (b20 : PySem.W.nsIn K PySem.mainGlobals "tuple" = some none)
    (b21 : PySem.W.nsIn K PySem.mainGlobals "list" = some none)
    (b22 : PySem.W.nsIn K PySem.mainGlobals "range" = some none)
    (b23 : PySem.W.nsIn K PySem.mainGlobals "int" = some none)
    (b24 : PySem.W.nsIn K PySem.mainGlobals "abs" = some none)
    (b25 : PySem.W.nsIn K PySem.mainGlobals "isinstance" = some none)
    (b26 : PySem.W.nsIn K PySem.mainGlobals "bool" = some none) :
    ∃ fd : PySem.FuncData, (∀ (s : PySem.Shared) (v : PySem.Value), PySem.BindsTo s fd ⟨[v], []⟩ [("script", v)]) ∧ ∀ base : PySem.Heap, K.In base → base.Ns PySem.mainGlobals mg → L2.FnOk l.prog w K mg base (L2.CX l.prog w) 5 fa fd ["script"] (spL K f_law) := by
  have e := hfa.symm.trans (PySem.W.mg_of X G a14)
  cases e
  have t : Tx K mg := ⟨⟨⟨f1, _, L2.fun_mk (st := s_rotate) l1 c1 e1, PySem.W.mg_of X G a1, e1, (L2.fun_mk (st := s_rotate) l1 c1 e1).binds (ps := ["word", "count"]) fun _ _ _ _ _ _ us hl => match us, hl with | [_, _], _ => rfl⟩⟩,
    ⟨⟨f2, _, L2.fun_mk (st := s_blend) l2 c2 e2, PySem.W.mg_of X G a2, e2, (L2.fun_mk (st := s_blend) l2 c2 e2).binds (ps := ["one", "other"]) fun _ _ _ _ _ _ us hl => match us, hl with | [_, _], _ => rfl⟩⟩,
    ⟨⟨f3, _, L2.fun_mk (st := s_stir) l3 c3 e3, PySem.W.mg_of X G a3, e3, (L2.fun_mk (st := s_stir) l3 c3 e3).binds (ps := ["v"]) fun _ _ _ _ _ _ us hl => match us, hl with | [_], _ => rfl⟩⟩,
    ⟨⟨f4, _, L2.fun_mk (st := s_demand_block) l4 c4 e4, PySem.W.mg_of X G a4, e4, (L2.fun_mk (st := s_demand_block) l4 c4 e4).binds (ps := ["words"]) fun _ _ _ _ _ _ us hl => match us, hl with | [_], _ => rfl⟩⟩,
    ⟨⟨f5, _, L2.fun_mk (st := s_xor_blocks) l5 c5 e5, PySem.W.mg_of X G a5, e5, (L2.fun_mk (st := s_xor_blocks) l5 c5 e5).binds (ps := ["first", "second"]) fun _ _ _ _ _ _ us hl => match us, hl with | [_, _], _ => rfl⟩⟩,
    ⟨⟨f6, _, L2.fun_mk (st := s_join_blocks) l6 c6 e6, PySem.W.mg_of X G a6, e6, (L2.fun_mk (st := s_join_blocks) l6 c6 e6).binds (ps := ["first", "second"]) fun _ _ _ _ _ _ us hl => match us, hl with | [_, _], _ => rfl⟩⟩,
    ⟨⟨f7, _, L2.fun_mk (st := s_join_blocks2) l7 c7 e7, PySem.W.mg_of X G a7, e7, (L2.fun_mk (st := s_join_blocks2) l7 c7 e7).binds (ps := ["first", "second"]) fun _ _ _ _ _ _ us hl => match us, hl with | [_, _], _ => rfl⟩⟩,
    ⟨⟨f8, _, L2.fun_mk (st := s__law_start) l8 c8 e8, PySem.W.mg_of X G a8, e8, (L2.fun_mk (st := s__law_start) l8 c8 e8).binds (ps := ["script"]) fun _ _ _ _ _ _ us hl => match us, hl with | [_], _ => rfl⟩⟩,
    ⟨⟨f9, _, L2.fun_mk (st := s__law_draw) l9 c9 e9, PySem.W.mg_of X G a9, e9, (L2.fun_mk (st := s__law_draw) l9 c9 e9).binds (ps := ["state", "many"]) fun _ _ _ _ _ _ us hl => match us, hl with | [_, _], _ => rfl⟩⟩,
    ⟨⟨f10, _, L2.fun_mk (st := s__law_block) l10 c10 e10, PySem.W.mg_of X G a10, e10, (L2.fun_mk (st := s__law_block) l10 c10 e10).binds (ps := ["state"]) fun _ _ _ _ _ _ us hl => match us, hl with | [_], _ => rfl⟩⟩,
    ⟨⟨f11, _, L2.fun_mk (st := s__law_half) l11 c11 e11, PySem.W.mg_of X G a11, e11, (L2.fun_mk (st := s__law_half) l11 c11 e11).binds (ps := ["z", "a", "b", "d", "bits"]) fun _ _ _ _ _ _ us hl => match us, hl with | [_, _, _, _, _], _ => rfl⟩⟩,
    ⟨⟨f12, _, L2.fun_mk (st := s__law_stirred) l12 c12 e12, PySem.W.mg_of X G a12, e12, (L2.fun_mk (st := s__law_stirred) l12 c12 e12).binds (ps := ["z", "places"]) fun _ _ _ _ _ _ us hl => match us, hl with | [_, _], _ => rfl⟩⟩,
    ⟨⟨f13, _, L2.fun_mk (st := s__law_expected) l13 c13 e13, PySem.W.mg_of X G a13, e13, (L2.fun_mk (st := s__law_expected) l13 c13 e13).binds (ps := ["first", "second"]) fun _ _ _ _ _ _ us hl => match us, hl with | [_, _], _ => rfl⟩⟩,
    cs_mk (PySem.W.mg_of X G b15) (kv_int),
    cs_mk (PySem.W.mg_of X G b16) (kv_int),
    cs_mk (PySem.W.mg_of X G b17) (kv_tup h17_1 (kvs_cons (kv_tup h17_2 (kvs_cons (kv_int) (kvs_cons (kv_int) (kvs_cons (kv_int) (kvs_cons (kv_int) kvs_nil))))) (kvs_cons (kv_tup h17_7 (kvs_cons (kv_int) (kvs_cons (kv_int) (kvs_cons (kv_int) (kvs_cons (kv_int) kvs_nil))))) (kvs_cons (kv_tup h17_12 (kvs_cons (kv_int) (kvs_cons (kv_int) (kvs_cons (kv_int) (kvs_cons (kv_int) kvs_nil))))) (kvs_cons (kv_tup h17_17 (kvs_cons (kv_int) (kvs_cons (kv_int) (kvs_cons (kv_int) (kvs_cons (kv_int) kvs_nil))))) (kvs_cons (kv_tup h17_22 (kvs_cons (kv_int) (kvs_cons (kv_int) (kvs_cons (kv_int) (kvs_cons (kv_int) kvs_nil))))) (kvs_cons (kv_tup h17_27 (kvs_cons (kv_int) (kvs_cons (kv_int) (kvs_cons (kv_int) (kvs_cons (kv_int) kvs_nil))))) (kvs_cons (kv_tup h17_32 (kvs_cons (kv_int) (kvs_cons (kv_int) (kvs_cons (kv_int) (kvs_cons (kv_int) kvs_nil))))) (kvs_cons (kv_tup h17_37 (kvs_cons (kv_int) (kvs_cons (kv_int) (kvs_cons (kv_int) (kvs_cons (kv_int) kvs_nil))))) kvs_nil))))))))),
    PySem.W.mg_none_of X G b18,
    PySem.W.mg_none_of X G b19,
    PySem.W.mg_none_of X G b20,
    PySem.W.mg_none_of X G b21,
    PySem.W.mg_none_of X G b22,
    PySem.W.mg_none_of X G b23,
    PySem.W.mg_none_of X G b24,
    PySem.W.mg_none_of X G b25,
    PySem.W.mg_none_of X G b26⟩
  exact ⟨_, fun s v => .of_eq rfl, fun base _ _ => (fn_body (L2.fun_mk (st := s_law) l14 c14 e14) sc_law (by decide) (p_law t)).imp fun _ _ _ _ q => q mg⟩
end Lk50

namespace Lk50
open SM
theorem q_draw : f__law_draw = fDraw := rfl
theorem q_start : f__law_start = fStart := rfl
/-! ### the mathematics -/
def bl (a b : Nat) : Nat := (a + b + 2 * (a % 2 ^ 32) * (b % 2 ^ 32)) % 2 ^ 64
def ro (w k : Nat) : Nat := (w / 2 ^ k ||| w * 2 ^ (64 - k)) % 2 ^ 64
def Wd (L : Nat) (xs : List Nat) : Prop := xs.length = L ∧ ∀ x, x ∈ xs → x < 2 ^ 64
def sB (xs : List Nat) (a b : Nat) : List Nat := xs.set a (bl (xs.getD a 0) (xs.getD b 0))
def sR (xs : List Nat) (d a k : Nat) : List Nat := xs.set d (ro (xs.getD d 0 ^^^ xs.getD a 0) k)
def half (xs : List Nat) (a b d k : Nat) : List Nat := sR (sB xs a b) d a k
def quad (xs : List Nat) (a b c d : Nat) : List Nat := half (half (half (half xs a b d 32) c d b 24) a b d 16) c d b 63
theorem ro_eq {w k : Nat} (hw : w < 2 ^ 64) : ro w k = w / 2 ^ k ||| (w * 2 ^ (64 - k)) % 2 ^ 64 := by
  unfold ro
  have h1 : w / 2 ^ k < 2 ^ 64 := Nat.lt_of_le_of_lt (Nat.div_le_self _ _) hw
  refine Nat.eq_of_testBit_eq fun i => ?_
  simp only [Nat.testBit_mod_two_pow, Nat.testBit_or]
  by_cases hi : i < 64
  · simp [hi]
  · have : (w / 2 ^ k).testBit i = false := Nat.testBit_lt_two_pow (Nat.lt_of_lt_of_le h1 (Nat.pow_le_pow_right (by decide) (by omega)))
    simp [hi, this]
theorem wd_getD {L : Nat} {xs : List Nat} (g : Wd L xs) (i : Nat) : xs.getD i 0 < 2 ^ 64 := by
  by_cases h : i < xs.length
  · rw [List.getD_eq_getElem?_getD, List.getElem?_eq_getElem h]
    exact g.2 _ (List.getElem_mem h)
  · rw [List.getD_eq_getElem?_getD, List.getElem?_eq_none (by omega)]
    decide
theorem wd_set {L : Nat} {xs : List Nat} (g : Wd L xs) (i : Nat) {x : Nat} (hx : x < 2 ^ 64) : Wd L (xs.set i x) := by
  refine ⟨by rw [List.length_set]; exact g.1, fun y hy => ?_⟩
  rcases List.mem_or_eq_of_mem_set hy with h | h
  · exact g.2 y h
  · rw [h]; exact hx
theorem sB_wd {L : Nat} {xs : List Nat} (g : Wd L xs) (a b : Nat) : Wd L (sB xs a b) := wd_set g a (Nat.mod_lt _ (by decide))
theorem sR_wd {L : Nat} {xs : List Nat} (g : Wd L xs) (d a k : Nat) : Wd L (sR xs d a k) := wd_set g d (Nat.mod_lt _ (by decide))
theorem half_wd {L : Nat} {xs : List Nat} (g : Wd L xs) (a b d k : Nat) : Wd L (half xs a b d k) := sR_wd (sB_wd g a b) d a k
theorem quad_wd {L : Nat} {xs : List Nat} (g : Wd L xs) (a b c d : Nat) : Wd L (quad xs a b c d) := half_wd (half_wd (half_wd (half_wd g _ _ _ _) _ _ _ _) _ _ _ _) _ _ _ _
theorem wd_at {L : Nat} {xs : List Nat} (g : Wd L xs) {i : Nat} (h : i < L) : L2.atI (vNats xs) (i : Int) = some (.int (xs.getD i 0 : Nat)) := by
  rw [nats_at (by rw [g.1]; exact h), List.getD_eq_getElem?_getD, List.getElem?_eq_getElem (by rw [g.1]; exact h)]
  rfl
/-! ### the program's parts -/
theorem cmul_nat {a b : Nat} (ha : a < 2 ^ 128) (hb : b < 2 ^ 128) : CMul (a : Int) (b : Int) := by
  have := intBits_nat (n := 127) ha
  have := intBits_nat (n := 127) hb
  show (_ : Int) ≤ _
  omega
theorem blend_ok {h : Heap} {a b : Nat} (ha : a < 2 ^ 64) (hb : b < 2 ^ 64) : f_blend [.v (.int (a : Int)), .v (.int (b : Int))] h = .ok (.v (.int (bl a b : Nat))) h := by
  unfold f_blend
  rw [mkFn_eq]
  unfold b_blend
  have e1 : (4294967295 : Int) = 2 ^ 32 - 1 := by decide
  have e2' : (18446744073709551615 : Int) = 2 ^ 64 - 1 := by decide
  have m1 : a % 2 ^ 32 < 2 ^ 32 := Nat.mod_lt _ (by decide)
  have m2 : b % 2 ^ 32 < 2 ^ 32 := Nat.mod_lt _ (by decide)
  have c1 : CMul ((2 : Nat) : Int) ((a % 2 ^ 32 : Nat) : Int) := cmul_nat (by decide) (by omega)
  have c2 : CMul ((2 * (a % 2 ^ 32) : Nat) : Int) ((b % 2 ^ 32 : Nat) : Int) := cmul_nat (by omega) (by omega)
  have k2 : (2 : Int) = ((2 : Nat) : Int) := rfl
  have p1 : ((2 : Nat) : Int) * ((a % 2 ^ 32 : Nat) : Int) = ((2 * (a % 2 ^ 32) : Nat) : Int) := (Int.natCast_mul _ _).symm
  have p2 : ((2 * (a % 2 ^ 32) : Nat) : Int) * ((b % 2 ^ 32 : Nat) : Int) = ((2 * (a % 2 ^ 32) * (b % 2 ^ 32) : Nat) : Int) := (Int.natCast_mul _ _).symm
  have hm1 : ∀ {h : Heap}, fMul h (.v (.int 2)) (.v (.int ((a % 2 ^ 32 : Nat) : Int))) = some (.v (.int ((2 * (a % 2 ^ 32) : Nat) : Int))) := fun {h} => (mul_ii c1).trans (by rw [p1])
  have hm2 : ∀ {h : Heap}, fMul h (.v (.int ((2 * (a % 2 ^ 32) : Nat) : Int))) (.v (.int ((b % 2 ^ 32 : Nat) : Int))) = some (.v (.int ((2 * (a % 2 ^ 32) * (b % 2 ^ 32) : Nat) : Int))) := fun {h} => (mul_ii c2).trans (by rw [p2])
  have h1 : PySem.Builtin.bitAnd (a : Int) 4294967295 = ((a % 2 ^ 32 : Nat) : Int) := by rw [e1, n_mask]
  have h2 : PySem.Builtin.bitAnd (b : Int) 4294967295 = ((b % 2 ^ 32 : Nat) : Int) := by rw [e1, n_mask]
  have h3 : PySem.Builtin.bitAnd ((a : Int) + (b : Int) + ((2 * (a % 2 ^ 32) * (b % 2 ^ 32) : Nat) : Int)) 18446744073709551615 = ((bl a b : Nat) : Int) := by
    rw [e2', ← Int.natCast_add, ← Int.natCast_add, n_mask]
    rfl
  simp only [q_C, q_Var, q_evv, q_evo, q_evw, q_e1, q_e1k, q_e2, q_e2k, q_e2j, q_aNil, q_aCons, q_ack, q_acj, q_argv, q_argo, q_argw, q_keeps, q_keepsN, q_kpc, q_keepv, q_keepo, q_Tup, q_etk, q_etj, q_Lst, q_elk, q_elj, q_Call, q_If, q_ift, q_iff, q_tB, q_tbk, q_tTru, q_ttk, q_tAnd, q_takt, q_takf, q_tOr, q_tokt, q_tokf, q_tNot, q_tnk, q_tYes, q_And, q_ndk, q_ndt, q_ndf, q_Or, q_ork, q_ort, q_orf, q_Not, q_ntk, q_ntj, q_trN, q_trB, q_trI, q_trT, q_trR, q_trO, q_trW, q_Chain, q_chk, q_chj, q_chit, q_chif, q_sNil, q_sPass, q_sCons, q_sSet, q_ssv, q_sso, q_sOwn, q_sok, q_sHeap, q_shk, q_sFrz, q_sfj, q_sExpr, q_sxk, q_sRet, q_srv, q_sro, q_sRetOwn, q_roj, q_sRetN, q_sBreak, q_sCont, q_sIf, q_sift, q_siff, q_sApp, q_sapj, q_sapv, q_sapo, q_sExt, q_sexj, q_sexk, q_sexm, q_llo, q_llw, q_llr, q_sSetIx, q_sixv, q_sixo, q_sixj, q_sixl, q_sixm, q_sSetHp, q_hpv, q_hpo, q_hpj, q_hpl, q_hpm, q_hpn, q_sAugHp, q_agk, q_agj, q_agl, q_agm, q_agn, q_ago, q_agp, q_sUnp, q_unk, q_setc, q_setn, q_sPar2, q_p2v, q_p2o, q_p2jv, q_p2jo, q_sAug, q_auj, q_aul, q_aumv, q_aumo, q_sWhile, q_wht, q_whf, q_frk, q_forN, q_forC, q_flk, q_putN, q_putT, q_iok, q_ioj, q_svT, q_svR, q_svS, q_svO, q_seT, q_seR, q_seS, q_seO, q_seW, q_iView, q_ivw, q_ivv, q_iRng1, q_irk, q_Sl, q_slk1, q_slk2, q_slk3, q_ePN, q_ePS, q_epk, q_cutT, q_cutR, q_cutS, q_cutO, q_cutW, q_SlSt, q_stk1, q_stk2, q_stk3, q_revO, q_revR, q_revW, q_LR, q_lrk, q_lrj, q_iRng2, q_r2k, q_r2j, q_iRng3, q_r3k, q_r3j, q_r3i, q_sUnpL, q_ulk, q_ulj, q_lkO, q_lkR, q_lkW, q_lkT, q_sExtA, q_xaj, q_xak, q_xam, q_laO, q_laW, q_laR, q_laT, q_LR3, q_l3k, q_l3j, q_l3i, q_sSetSl, q_ssk2, q_ssj, q_ssl, q_ssm, q_ssn, opt_some, opt_none, EO.bind_ok, EO.bind_ex, EO.then_ok, EO.then_ex, SO.seq_nx, SO.seq_rt, SO.seq_bk, SO.seq_ct, SO.seq_ex, SO.turn_nx, SO.turn_ct, SO.turn_bk, SO.turn_rt, SO.turn_ex, add_ii, sub_ii, and_ii, or_ii, xor_ii, lt_ii, le_ii, gt_ii, ge_ii, max_ii, min_ii, neg_i, abs_i, int_i, eq_ii, ne_ii, len_tup, len_ro, len_own, len_view, list_tup, list_ro, list_scr, list_own, list_view, tuple_tup, tuple_ro, tuple_own, tuple_view, at0, at1, at2, at3, ix_tup, ix_ro, ix_own, ix_view, Option.map_some, line, List.getElem?_cons_zero, List.getElem?_cons_succ, List.getElem?_nil, List.set_cons_zero, List.set_cons_succ, List.set_nil, List.length_cons, List.length_nil, List.map_cons, List.map_nil, List.cons_append, List.nil_append, List.replicate, Bool.not_true, Bool.not_false, if_true, if_false, Bool.false_eq_true, reduceIte, Nat.reduceAdd, Nat.reduceSub, Nat.reduceLeDiff, Nat.reduceEqDiff, decide_true, decide_false, k_HALF, k_MASK, h1, h2, hm1, hm2, h3]
  exact fin_self
theorem rotate_ok {h : Heap} {w k : Nat} (hw : w < 2 ^ 64) (hk : k ≤ 64) : f_rotate [.v (.int (w : Int)), .v (.int (k : Int))] h = .ok (.v (.int (ro w k : Nat))) h := by
  unfold f_rotate
  rw [mkFn_eq]
  unfold b_rotate
  have e2' : (18446744073709551615 : Int) = 2 ^ 64 - 1 := by decide
  have e1 : (64 : Int) - (k : Int) = ((64 - k : Nat) : Int) := by omega
  have c1 : (PySem.Builtin.Int.intBits (w : Int) : Int) + ((64 - k : Nat) : Int) ≤ 2 ^ 27 := by
    have := intBits_nat (n := 63) hw
    omega
  simp only [q_C, q_Var, q_evv, q_evo, q_evw, q_e1, q_e1k, q_e2, q_e2k, q_e2j, q_aNil, q_aCons, q_ack, q_acj, q_argv, q_argo, q_argw, q_keeps, q_keepsN, q_kpc, q_keepv, q_keepo, q_Tup, q_etk, q_etj, q_Lst, q_elk, q_elj, q_Call, q_If, q_ift, q_iff, q_tB, q_tbk, q_tTru, q_ttk, q_tAnd, q_takt, q_takf, q_tOr, q_tokt, q_tokf, q_tNot, q_tnk, q_tYes, q_And, q_ndk, q_ndt, q_ndf, q_Or, q_ork, q_ort, q_orf, q_Not, q_ntk, q_ntj, q_trN, q_trB, q_trI, q_trT, q_trR, q_trO, q_trW, q_Chain, q_chk, q_chj, q_chit, q_chif, q_sNil, q_sPass, q_sCons, q_sSet, q_ssv, q_sso, q_sOwn, q_sok, q_sHeap, q_shk, q_sFrz, q_sfj, q_sExpr, q_sxk, q_sRet, q_srv, q_sro, q_sRetOwn, q_roj, q_sRetN, q_sBreak, q_sCont, q_sIf, q_sift, q_siff, q_sApp, q_sapj, q_sapv, q_sapo, q_sExt, q_sexj, q_sexk, q_sexm, q_llo, q_llw, q_llr, q_sSetIx, q_sixv, q_sixo, q_sixj, q_sixl, q_sixm, q_sSetHp, q_hpv, q_hpo, q_hpj, q_hpl, q_hpm, q_hpn, q_sAugHp, q_agk, q_agj, q_agl, q_agm, q_agn, q_ago, q_agp, q_sUnp, q_unk, q_setc, q_setn, q_sPar2, q_p2v, q_p2o, q_p2jv, q_p2jo, q_sAug, q_auj, q_aul, q_aumv, q_aumo, q_sWhile, q_wht, q_whf, q_frk, q_forN, q_forC, q_flk, q_putN, q_putT, q_iok, q_ioj, q_svT, q_svR, q_svS, q_svO, q_seT, q_seR, q_seS, q_seO, q_seW, q_iView, q_ivw, q_ivv, q_iRng1, q_irk, q_Sl, q_slk1, q_slk2, q_slk3, q_ePN, q_ePS, q_epk, q_cutT, q_cutR, q_cutS, q_cutO, q_cutW, q_SlSt, q_stk1, q_stk2, q_stk3, q_revO, q_revR, q_revW, q_LR, q_lrk, q_lrj, q_iRng2, q_r2k, q_r2j, q_iRng3, q_r3k, q_r3j, q_r3i, q_sUnpL, q_ulk, q_ulj, q_lkO, q_lkR, q_lkW, q_lkT, q_sExtA, q_xaj, q_xak, q_xam, q_laO, q_laW, q_laR, q_laT, q_LR3, q_l3k, q_l3j, q_l3i, q_sSetSl, q_ssk2, q_ssj, q_ssl, q_ssm, q_ssn, opt_some, opt_none, EO.bind_ok, EO.bind_ex, EO.then_ok, EO.then_ex, SO.seq_nx, SO.seq_rt, SO.seq_bk, SO.seq_ct, SO.seq_ex, SO.turn_nx, SO.turn_ct, SO.turn_bk, SO.turn_rt, SO.turn_ex, add_ii, sub_ii, and_ii, or_ii, xor_ii, lt_ii, le_ii, gt_ii, ge_ii, max_ii, min_ii, neg_i, abs_i, int_i, eq_ii, ne_ii, len_tup, len_ro, len_own, len_view, list_tup, list_ro, list_scr, list_own, list_view, tuple_tup, tuple_ro, tuple_own, tuple_view, at0, at1, at2, at3, ix_tup, ix_ro, ix_own, ix_view, Option.map_some, line, List.getElem?_cons_zero, List.getElem?_cons_succ, List.getElem?_nil, List.set_cons_zero, List.set_cons_succ, List.set_nil, List.length_cons, List.length_nil, List.map_cons, List.map_nil, List.cons_append, List.nil_append, List.replicate, Bool.not_true, Bool.not_false, if_true, if_false, Bool.false_eq_true, reduceIte, Nat.reduceAdd, Nat.reduceSub, Nat.reduceLeDiff, Nat.reduceEqDiff, decide_true, decide_false, k_MASK, e1, shl_ii (Int.natCast_nonneg _) c1, shr_ii (Int.natCast_nonneg _), Int.toNat_natCast, n_mul2, n_div2, n_or, e2', n_mask]
  exact fin_self
theorem stB {h : Heap} {m L : Nat} {xs : List Nat} (g : Wd L xs) (hm : h[m]? = some (.lst (vNats xs))) {r : Env} {ai bi a b : Nat} (hr : r[0]? = some (some (.v (.obj m)))) (ha : r[ai]? = some (some (.v (.int (a : Int))))) (hb : r[bi]? = some (some (.v (.int (b : Int))))) (a1 : a < L) (b1 : b < L) :
    sSetHp (eVar 0) (eVar ai) (eCall f_blend (aCons (e2 fIx (eVar 0) (eVar ai)) (aCons (e2 fIx (eVar 0) (eVar bi)) (aNil)))) r h = .nx r (h.set m (.lst (vNats (sB xs a b)))) := by
  simp only [q_C, q_Var, q_evv, q_evo, q_evw, q_e1, q_e1k, q_e2, q_e2k, q_e2j, q_aNil, q_aCons, q_ack, q_acj, q_argv, q_argo, q_argw, q_keeps, q_keepsN, q_kpc, q_keepv, q_keepo, q_Tup, q_etk, q_etj, q_Lst, q_elk, q_elj, q_Call, q_If, q_ift, q_iff, q_tB, q_tbk, q_tTru, q_ttk, q_tAnd, q_takt, q_takf, q_tOr, q_tokt, q_tokf, q_tNot, q_tnk, q_tYes, q_And, q_ndk, q_ndt, q_ndf, q_Or, q_ork, q_ort, q_orf, q_Not, q_ntk, q_ntj, q_trN, q_trB, q_trI, q_trT, q_trR, q_trO, q_trW, q_Chain, q_chk, q_chj, q_chit, q_chif, q_sNil, q_sPass, q_sCons, q_sSet, q_ssv, q_sso, q_sOwn, q_sok, q_sHeap, q_shk, q_sFrz, q_sfj, q_sExpr, q_sxk, q_sRet, q_srv, q_sro, q_sRetOwn, q_roj, q_sRetN, q_sBreak, q_sCont, q_sIf, q_sift, q_siff, q_sApp, q_sapj, q_sapv, q_sapo, q_sExt, q_sexj, q_sexk, q_sexm, q_llo, q_llw, q_llr, q_sSetIx, q_sixv, q_sixo, q_sixj, q_sixl, q_sixm, q_sSetHp, q_hpv, q_hpo, q_hpj, q_hpl, q_hpm, q_hpn, q_sAugHp, q_agk, q_agj, q_agl, q_agm, q_agn, q_ago, q_agp, q_sUnp, q_unk, q_setc, q_setn, q_sPar2, q_p2v, q_p2o, q_p2jv, q_p2jo, q_sAug, q_auj, q_aul, q_aumv, q_aumo, q_sWhile, q_wht, q_whf, q_frk, q_forN, q_forC, q_flk, q_putN, q_putT, q_iok, q_ioj, q_svT, q_svR, q_svS, q_svO, q_seT, q_seR, q_seS, q_seO, q_seW, q_iView, q_ivw, q_ivv, q_iRng1, q_irk, q_Sl, q_slk1, q_slk2, q_slk3, q_ePN, q_ePS, q_epk, q_cutT, q_cutR, q_cutS, q_cutO, q_cutW, q_SlSt, q_stk1, q_stk2, q_stk3, q_revO, q_revR, q_revW, q_LR, q_lrk, q_lrj, q_iRng2, q_r2k, q_r2j, q_iRng3, q_r3k, q_r3j, q_r3i, q_sUnpL, q_ulk, q_ulj, q_lkO, q_lkR, q_lkW, q_lkT, q_sExtA, q_xaj, q_xak, q_xam, q_laO, q_laW, q_laR, q_laT, q_LR3, q_l3k, q_l3j, q_l3i, q_sSetSl, q_ssk2, q_ssj, q_ssl, q_ssm, q_ssn, opt_some, opt_none, EO.bind_ok, EO.bind_ex, EO.then_ok, EO.then_ex, SO.seq_nx, SO.seq_rt, SO.seq_bk, SO.seq_ct, SO.seq_ex, SO.turn_nx, SO.turn_ct, SO.turn_bk, SO.turn_rt, SO.turn_ex, add_ii, sub_ii, and_ii, or_ii, xor_ii, lt_ii, le_ii, gt_ii, ge_ii, max_ii, min_ii, neg_i, abs_i, int_i, eq_ii, ne_ii, len_tup, len_ro, len_own, len_view, list_tup, list_ro, list_scr, list_own, list_view, tuple_tup, tuple_ro, tuple_own, tuple_view, at0, at1, at2, at3, ix_tup, ix_ro, ix_own, ix_view, Option.map_some, line, List.getElem?_cons_zero, List.getElem?_cons_succ, List.getElem?_nil, List.set_cons_zero, List.set_cons_succ, List.set_nil, List.length_cons, List.length_nil, List.map_cons, List.map_nil, List.cons_append, List.nil_append, List.replicate, Bool.not_true, Bool.not_false, if_true, if_false, Bool.false_eq_true, reduceIte, Nat.reduceAdd, Nat.reduceSub, Nat.reduceLeDiff, Nat.reduceEqDiff, decide_true, decide_false, hr, ha, hb, ix_obj hm, wd_at g a1, wd_at g b1, blend_ok (wd_getD g a) (wd_getD g b), hm]
  rw [ixN_nat (by rw [nats_len, g.1]; exact a1)]
  simp only [q_C, q_Var, q_evv, q_evo, q_evw, q_e1, q_e1k, q_e2, q_e2k, q_e2j, q_aNil, q_aCons, q_ack, q_acj, q_argv, q_argo, q_argw, q_keeps, q_keepsN, q_kpc, q_keepv, q_keepo, q_Tup, q_etk, q_etj, q_Lst, q_elk, q_elj, q_Call, q_If, q_ift, q_iff, q_tB, q_tbk, q_tTru, q_ttk, q_tAnd, q_takt, q_takf, q_tOr, q_tokt, q_tokf, q_tNot, q_tnk, q_tYes, q_And, q_ndk, q_ndt, q_ndf, q_Or, q_ork, q_ort, q_orf, q_Not, q_ntk, q_ntj, q_trN, q_trB, q_trI, q_trT, q_trR, q_trO, q_trW, q_Chain, q_chk, q_chj, q_chit, q_chif, q_sNil, q_sPass, q_sCons, q_sSet, q_ssv, q_sso, q_sOwn, q_sok, q_sHeap, q_shk, q_sFrz, q_sfj, q_sExpr, q_sxk, q_sRet, q_srv, q_sro, q_sRetOwn, q_roj, q_sRetN, q_sBreak, q_sCont, q_sIf, q_sift, q_siff, q_sApp, q_sapj, q_sapv, q_sapo, q_sExt, q_sexj, q_sexk, q_sexm, q_llo, q_llw, q_llr, q_sSetIx, q_sixv, q_sixo, q_sixj, q_sixl, q_sixm, q_sSetHp, q_hpv, q_hpo, q_hpj, q_hpl, q_hpm, q_hpn, q_sAugHp, q_agk, q_agj, q_agl, q_agm, q_agn, q_ago, q_agp, q_sUnp, q_unk, q_setc, q_setn, q_sPar2, q_p2v, q_p2o, q_p2jv, q_p2jo, q_sAug, q_auj, q_aul, q_aumv, q_aumo, q_sWhile, q_wht, q_whf, q_frk, q_forN, q_forC, q_flk, q_putN, q_putT, q_iok, q_ioj, q_svT, q_svR, q_svS, q_svO, q_seT, q_seR, q_seS, q_seO, q_seW, q_iView, q_ivw, q_ivv, q_iRng1, q_irk, q_Sl, q_slk1, q_slk2, q_slk3, q_ePN, q_ePS, q_epk, q_cutT, q_cutR, q_cutS, q_cutO, q_cutW, q_SlSt, q_stk1, q_stk2, q_stk3, q_revO, q_revR, q_revW, q_LR, q_lrk, q_lrj, q_iRng2, q_r2k, q_r2j, q_iRng3, q_r3k, q_r3j, q_r3i, q_sUnpL, q_ulk, q_ulj, q_lkO, q_lkR, q_lkW, q_lkT, q_sExtA, q_xaj, q_xak, q_xam, q_laO, q_laW, q_laR, q_laT, q_LR3, q_l3k, q_l3j, q_l3i, q_sSetSl, q_ssk2, q_ssj, q_ssl, q_ssm, q_ssn, opt_some, opt_none, EO.bind_ok, EO.bind_ex, EO.then_ok, EO.then_ex, SO.seq_nx, SO.seq_rt, SO.seq_bk, SO.seq_ct, SO.seq_ex, SO.turn_nx, SO.turn_ct, SO.turn_bk, SO.turn_rt, SO.turn_ex, add_ii, sub_ii, and_ii, or_ii, xor_ii, lt_ii, le_ii, gt_ii, ge_ii, max_ii, min_ii, neg_i, abs_i, int_i, eq_ii, ne_ii, len_tup, len_ro, len_own, len_view, list_tup, list_ro, list_scr, list_own, list_view, tuple_tup, tuple_ro, tuple_own, tuple_view, at0, at1, at2, at3, ix_tup, ix_ro, ix_own, ix_view, Option.map_some, line, List.getElem?_cons_zero, List.getElem?_cons_succ, List.getElem?_nil, List.set_cons_zero, List.set_cons_succ, List.set_nil, List.length_cons, List.length_nil, List.map_cons, List.map_nil, List.cons_append, List.nil_append, List.replicate, Bool.not_true, Bool.not_false, if_true, if_false, Bool.false_eq_true, reduceIte, Nat.reduceAdd, Nat.reduceSub, Nat.reduceLeDiff, Nat.reduceEqDiff, decide_true, decide_false, nats_set]
  rfl
theorem stR {h : Heap} {m L : Nat} {xs : List Nat} (g : Wd L xs) (hm : h[m]? = some (.lst (vNats xs))) {r : Env} {di ai d a k : Nat} {kI : Int} (hk : kI = (k : Int)) (hr : r[0]? = some (some (.v (.obj m)))) (hd : r[di]? = some (some (.v (.int (d : Int))))) (ha : r[ai]? = some (some (.v (.int (a : Int))))) (d1 : d < L) (a1 : a < L) (k1 : k ≤ 64) :
    sSetHp (eVar 0) (eVar di) (eCall f_rotate (aCons (e2 fXor (e2 fIx (eVar 0) (eVar di)) (e2 fIx (eVar 0) (eVar ai))) (aCons (eC (.int kI)) (aNil)))) r h = .nx r (h.set m (.lst (vNats (sR xs d a k)))) := by
  subst hk
  simp only [q_C, q_Var, q_evv, q_evo, q_evw, q_e1, q_e1k, q_e2, q_e2k, q_e2j, q_aNil, q_aCons, q_ack, q_acj, q_argv, q_argo, q_argw, q_keeps, q_keepsN, q_kpc, q_keepv, q_keepo, q_Tup, q_etk, q_etj, q_Lst, q_elk, q_elj, q_Call, q_If, q_ift, q_iff, q_tB, q_tbk, q_tTru, q_ttk, q_tAnd, q_takt, q_takf, q_tOr, q_tokt, q_tokf, q_tNot, q_tnk, q_tYes, q_And, q_ndk, q_ndt, q_ndf, q_Or, q_ork, q_ort, q_orf, q_Not, q_ntk, q_ntj, q_trN, q_trB, q_trI, q_trT, q_trR, q_trO, q_trW, q_Chain, q_chk, q_chj, q_chit, q_chif, q_sNil, q_sPass, q_sCons, q_sSet, q_ssv, q_sso, q_sOwn, q_sok, q_sHeap, q_shk, q_sFrz, q_sfj, q_sExpr, q_sxk, q_sRet, q_srv, q_sro, q_sRetOwn, q_roj, q_sRetN, q_sBreak, q_sCont, q_sIf, q_sift, q_siff, q_sApp, q_sapj, q_sapv, q_sapo, q_sExt, q_sexj, q_sexk, q_sexm, q_llo, q_llw, q_llr, q_sSetIx, q_sixv, q_sixo, q_sixj, q_sixl, q_sixm, q_sSetHp, q_hpv, q_hpo, q_hpj, q_hpl, q_hpm, q_hpn, q_sAugHp, q_agk, q_agj, q_agl, q_agm, q_agn, q_ago, q_agp, q_sUnp, q_unk, q_setc, q_setn, q_sPar2, q_p2v, q_p2o, q_p2jv, q_p2jo, q_sAug, q_auj, q_aul, q_aumv, q_aumo, q_sWhile, q_wht, q_whf, q_frk, q_forN, q_forC, q_flk, q_putN, q_putT, q_iok, q_ioj, q_svT, q_svR, q_svS, q_svO, q_seT, q_seR, q_seS, q_seO, q_seW, q_iView, q_ivw, q_ivv, q_iRng1, q_irk, q_Sl, q_slk1, q_slk2, q_slk3, q_ePN, q_ePS, q_epk, q_cutT, q_cutR, q_cutS, q_cutO, q_cutW, q_SlSt, q_stk1, q_stk2, q_stk3, q_revO, q_revR, q_revW, q_LR, q_lrk, q_lrj, q_iRng2, q_r2k, q_r2j, q_iRng3, q_r3k, q_r3j, q_r3i, q_sUnpL, q_ulk, q_ulj, q_lkO, q_lkR, q_lkW, q_lkT, q_sExtA, q_xaj, q_xak, q_xam, q_laO, q_laW, q_laR, q_laT, q_LR3, q_l3k, q_l3j, q_l3i, q_sSetSl, q_ssk2, q_ssj, q_ssl, q_ssm, q_ssn, opt_some, opt_none, EO.bind_ok, EO.bind_ex, EO.then_ok, EO.then_ex, SO.seq_nx, SO.seq_rt, SO.seq_bk, SO.seq_ct, SO.seq_ex, SO.turn_nx, SO.turn_ct, SO.turn_bk, SO.turn_rt, SO.turn_ex, add_ii, sub_ii, and_ii, or_ii, xor_ii, lt_ii, le_ii, gt_ii, ge_ii, max_ii, min_ii, neg_i, abs_i, int_i, eq_ii, ne_ii, len_tup, len_ro, len_own, len_view, list_tup, list_ro, list_scr, list_own, list_view, tuple_tup, tuple_ro, tuple_own, tuple_view, at0, at1, at2, at3, ix_tup, ix_ro, ix_own, ix_view, Option.map_some, line, List.getElem?_cons_zero, List.getElem?_cons_succ, List.getElem?_nil, List.set_cons_zero, List.set_cons_succ, List.set_nil, List.length_cons, List.length_nil, List.map_cons, List.map_nil, List.cons_append, List.nil_append, List.replicate, Bool.not_true, Bool.not_false, if_true, if_false, Bool.false_eq_true, reduceIte, Nat.reduceAdd, Nat.reduceSub, Nat.reduceLeDiff, Nat.reduceEqDiff, decide_true, decide_false, hr, ha, hd, ix_obj hm, wd_at g a1, wd_at g d1, n_xor, rotate_ok (Nat.xor_lt_two_pow (wd_getD g d) (wd_getD g a)) k1, hm]
  rw [ixN_nat (by rw [nats_len, g.1]; exact d1)]
  simp only [q_C, q_Var, q_evv, q_evo, q_evw, q_e1, q_e1k, q_e2, q_e2k, q_e2j, q_aNil, q_aCons, q_ack, q_acj, q_argv, q_argo, q_argw, q_keeps, q_keepsN, q_kpc, q_keepv, q_keepo, q_Tup, q_etk, q_etj, q_Lst, q_elk, q_elj, q_Call, q_If, q_ift, q_iff, q_tB, q_tbk, q_tTru, q_ttk, q_tAnd, q_takt, q_takf, q_tOr, q_tokt, q_tokf, q_tNot, q_tnk, q_tYes, q_And, q_ndk, q_ndt, q_ndf, q_Or, q_ork, q_ort, q_orf, q_Not, q_ntk, q_ntj, q_trN, q_trB, q_trI, q_trT, q_trR, q_trO, q_trW, q_Chain, q_chk, q_chj, q_chit, q_chif, q_sNil, q_sPass, q_sCons, q_sSet, q_ssv, q_sso, q_sOwn, q_sok, q_sHeap, q_shk, q_sFrz, q_sfj, q_sExpr, q_sxk, q_sRet, q_srv, q_sro, q_sRetOwn, q_roj, q_sRetN, q_sBreak, q_sCont, q_sIf, q_sift, q_siff, q_sApp, q_sapj, q_sapv, q_sapo, q_sExt, q_sexj, q_sexk, q_sexm, q_llo, q_llw, q_llr, q_sSetIx, q_sixv, q_sixo, q_sixj, q_sixl, q_sixm, q_sSetHp, q_hpv, q_hpo, q_hpj, q_hpl, q_hpm, q_hpn, q_sAugHp, q_agk, q_agj, q_agl, q_agm, q_agn, q_ago, q_agp, q_sUnp, q_unk, q_setc, q_setn, q_sPar2, q_p2v, q_p2o, q_p2jv, q_p2jo, q_sAug, q_auj, q_aul, q_aumv, q_aumo, q_sWhile, q_wht, q_whf, q_frk, q_forN, q_forC, q_flk, q_putN, q_putT, q_iok, q_ioj, q_svT, q_svR, q_svS, q_svO, q_seT, q_seR, q_seS, q_seO, q_seW, q_iView, q_ivw, q_ivv, q_iRng1, q_irk, q_Sl, q_slk1, q_slk2, q_slk3, q_ePN, q_ePS, q_epk, q_cutT, q_cutR, q_cutS, q_cutO, q_cutW, q_SlSt, q_stk1, q_stk2, q_stk3, q_revO, q_revR, q_revW, q_LR, q_lrk, q_lrj, q_iRng2, q_r2k, q_r2j, q_iRng3, q_r3k, q_r3j, q_r3i, q_sUnpL, q_ulk, q_ulj, q_lkO, q_lkR, q_lkW, q_lkT, q_sExtA, q_xaj, q_xak, q_xam, q_laO, q_laW, q_laR, q_laT, q_LR3, q_l3k, q_l3j, q_l3i, q_sSetSl, q_ssk2, q_ssj, q_ssl, q_ssm, q_ssn, opt_some, opt_none, EO.bind_ok, EO.bind_ex, EO.then_ok, EO.then_ex, SO.seq_nx, SO.seq_rt, SO.seq_bk, SO.seq_ct, SO.seq_ex, SO.turn_nx, SO.turn_ct, SO.turn_bk, SO.turn_rt, SO.turn_ex, add_ii, sub_ii, and_ii, or_ii, xor_ii, lt_ii, le_ii, gt_ii, ge_ii, max_ii, min_ii, neg_i, abs_i, int_i, eq_ii, ne_ii, len_tup, len_ro, len_own, len_view, list_tup, list_ro, list_scr, list_own, list_view, tuple_tup, tuple_ro, tuple_own, tuple_view, at0, at1, at2, at3, ix_tup, ix_ro, ix_own, ix_view, Option.map_some, line, List.getElem?_cons_zero, List.getElem?_cons_succ, List.getElem?_nil, List.set_cons_zero, List.set_cons_succ, List.set_nil, List.length_cons, List.length_nil, List.map_cons, List.map_nil, List.cons_append, List.nil_append, List.replicate, Bool.not_true, Bool.not_false, if_true, if_false, Bool.false_eq_true, reduceIte, Nat.reduceAdd, Nat.reduceSub, Nat.reduceLeDiff, Nat.reduceEqDiff, decide_true, decide_false, nats_set]
  rfl
theorem quad_ok {h : Heap} {m L : Nat} {xs : List Nat} (g : Wd L xs) (hm : h[m]? = some (.lst (vNats xs))) {a b c d : Nat} (ha : a < L) (hb : b < L) (hc : c < L) (hd : d < L) :
    l_stir_1 [some (.v (.obj m)), some (.v (.int (a : Int))), some (.v (.int (b : Int))), some (.v (.int (c : Int))), some (.v (.int (d : Int)))] h = .nx [some (.v (.obj m)), some (.v (.int (a : Int))), some (.v (.int (b : Int))), some (.v (.int (c : Int))), some (.v (.int (d : Int)))] (h.set m (.lst (vNats (quad xs a b c d)))) := by
  have hlt : m < h.length := (List.getElem?_eq_some_iff.mp hm).1
  have hset : ∀ o, (h.set m o)[m]? = some o := fun o => List.getElem?_set_self hlt
  unfold l_stir_1
  have g1 := sB_wd g a b
  have g2 := sR_wd g1 d a 32
  have g3 := sB_wd g2 c d
  have g4 := sR_wd g3 b c 24
  have g5 := sB_wd g4 a b
  have g6 := sR_wd g5 d a 16
  have g7 := sB_wd g6 c d
  rw [q_sCons, stB g hm rfl rfl rfl ha hb, SO.seq_nx, q_sCons, stR (k := 32) (kI := 32) g1 (hset _) rfl rfl rfl rfl hd ha (by decide), SO.seq_nx, List.set_set, q_sCons, stB g2 (hset _) rfl rfl rfl hc hd, SO.seq_nx, List.set_set, q_sCons, stR (k := 24) (kI := 24) g3 (hset _) rfl rfl rfl rfl hb hc (by decide), SO.seq_nx, List.set_set,
    q_sCons, stB g4 (hset _) rfl rfl rfl ha hb, SO.seq_nx, List.set_set, q_sCons, stR (k := 16) (kI := 16) g5 (hset _) rfl rfl rfl rfl hd ha (by decide), SO.seq_nx, List.set_set, q_sCons, stB g6 (hset _) rfl rfl rfl hc hd, SO.seq_nx, List.set_set, stR (k := 63) (kI := 63) g7 (hset _) rfl rfl rfl rfl hb hc (by decide), List.set_set]
  rfl
/-! ### the quarters -/
def qsV : List Val := [(.tup [(.int 0), (.int 4), (.int 8), (.int 12)]), (.tup [(.int 1), (.int 5), (.int 9), (.int 13)]), (.tup [(.int 2), (.int 6), (.int 10), (.int 14)]), (.tup [(.int 3), (.int 7), (.int 11), (.int 15)]), (.tup [(.int 0), (.int 5), (.int 10), (.int 15)]), (.tup [(.int 1), (.int 6), (.int 11), (.int 12)]), (.tup [(.int 2), (.int 7), (.int 8), (.int 13)]), (.tup [(.int 3), (.int 4), (.int 9), (.int 14)])]
theorem stp_of {v : Val} (h : v ∈ qsV) : ∃ a b c d : Nat, a < 16 ∧ b < 16 ∧ c < 16 ∧ d < 16 ∧ [a, b, c, d].Nodup ∧ v = .tup [.int (a : Int), .int (b : Int), .int (c : Int), .int (d : Int)] := by
  simp only [qsV, List.mem_cons, List.not_mem_nil, or_false] at h
  rcases h with h | h | h | h | h | h | h | h <;> subst h
  · exact ⟨0, 4, 8, 12, by decide, by decide, by decide, by decide, by decide, rfl⟩
  · exact ⟨1, 5, 9, 13, by decide, by decide, by decide, by decide, by decide, rfl⟩
  · exact ⟨2, 6, 10, 14, by decide, by decide, by decide, by decide, by decide, rfl⟩
  · exact ⟨3, 7, 11, 15, by decide, by decide, by decide, by decide, by decide, rfl⟩
  · exact ⟨0, 5, 10, 15, by decide, by decide, by decide, by decide, by decide, rfl⟩
  · exact ⟨1, 6, 11, 12, by decide, by decide, by decide, by decide, by decide, rfl⟩
  · exact ⟨2, 7, 8, 13, by decide, by decide, by decide, by decide, by decide, rfl⟩
  · exact ⟨3, 4, 9, 14, by decide, by decide, by decide, by decide, by decide, rfl⟩
/-- a quarter through places -/
def qp (P : List Nat) (xs : List Nat) (v : Val) : List Nat := match v with
  | .tup [.int a, .int b, .int c, .int d] => quad xs (P.getD a.toNat 0) (P.getD b.toNat 0) (P.getD c.toNat 0) (P.getD d.toNat 0)
  | _ => xs
def qv (xs : List Nat) (v : Val) : List Nat := match v with
  | .tup [.int a, .int b, .int c, .int d] => quad xs a.toNat b.toNat c.toNat d.toNat
  | _ => xs
theorem qv_tup (xs : List Nat) (a b c d : Nat) : qv xs (.tup [.int (a : Int), .int (b : Int), .int (c : Int), .int (d : Int)]) = quad xs a b c d := rfl
theorem qp_tup (P xs : List Nat) (a b c d : Nat) : qp P xs (.tup [.int (a : Int), .int (b : Int), .int (c : Int), .int (d : Int)]) = quad xs (P.getD a 0) (P.getD b 0) (P.getD c 0) (P.getD d 0) := rfl
def stirN (xs : List Nat) : List Nat := qsV.foldl qv xs
def stirP (P xs : List Nat) : List Nat := qsV.foldl (qp P) xs
theorem len5 {r : Env} (h : r.length = 5) : ∃ a b c d e, r = [a, b, c, d, e] := by
  match r, h with
  | [a, b, c, d, e], _ => exact ⟨a, b, c, d, e, rfl⟩
theorem stir_ok {h : Heap} {m : Nat} {xs : List Nat} (g : Wd 16 xs) (hm : h[m]? = some (.lst (vNats xs))) : f_stir [.v (.obj m)] h = .ok (.v .none) (h.set m (.lst (vNats (stirN xs)))) ∧ Wd 16 (stirN xs) := by
  have hlt : m < h.length := (List.getElem?_eq_some_iff.mp hm).1
  have h0 : h = h.set m (.lst (vNats xs)) := by
    refine List.ext_getElem? fun k => ?_
    by_cases hk : m = k
    · subst hk; rw [List.getElem?_set_self hlt, hm]
    · rw [List.getElem?_set_ne hk]
  have := for_fold (g := .tp [1, 2, 3, 4]) (it := iSeq (eC k_QUARTERS)) (b := l_stir_1) (r := [some (.v (.obj m)), none, none, none, none]) (h := h) (h1 := h) (xs := qsV) qv (fun a r h' => Wd 16 a ∧ h' = h.set m (.lst (vNats a)) ∧ r.length = 5 ∧ r[0]? = some (some (.v (.obj m)))) xs rfl ⟨g, h0, rfl, rfl⟩ fun v hv a r h' ⟨ga, e, l, e0⟩ => by
    obtain ⟨x, y, z, u, hx, hy, hz, hu, _, rfl⟩ := stp_of hv
    subst e
    obtain ⟨a0, a1, a2, a3, a4, rfl⟩ := len5 l
    cases (show a0 = some (.v (.obj m)) from Option.some.inj e0)
    refine ⟨_, rfl, _, _, quad_ok ga (List.getElem?_set_self hlt) hx hy hz hu, by rw [qv_tup]; exact quad_wd ga _ _ _ _, by rw [List.set_set, qv_tup], rfl, rfl⟩
  obtain ⟨r2, h2, e, p1, p2, _⟩ := this
  refine ⟨?_, p1⟩
  unfold f_stir
  rw [mkFn_eq]
  unfold b_stir
  have e' : sFor (.tp [1, 2, 3, 4]) (iSeq (eC k_QUARTERS)) l_stir_1 ([RV.v (Val.obj m)].map some ++ List.replicate (5 - [RV.v (Val.obj m)].length) none) h = .nx r2 h2 := e
  rw [e', p2]
  exact fin_lenN List.length_set
/-! ### the law's parts -/
theorem half_ok {h : Heap} {m L : Nat} {xs : List Nat} (g : Wd L xs) (hm : h[m]? = some (.lst (vNats xs))) {a b d k : Nat} (ha : a < L) (hb : b < L) (hd : d < L) (hk : k ≤ 64) {kI : Int} (hkI : kI = (k : Int)) :
    f__law_half [.v (.obj m), .v (.int (a : Int)), .v (.int (b : Int)), .v (.int (d : Int)), .v (.int kI)] h = .ok (.v .none) (h.set m (.lst (vNats (half xs a b d k)))) := by
  subst hkI
  have hlt : m < h.length := (List.getElem?_eq_some_iff.mp hm).1
  have hset : ∀ o, (h.set m o)[m]? = some o := fun o => List.getElem?_set_self hlt
  unfold f__law_half
  rw [mkFn_eq]
  unfold b__law_half
  have g1 := sB_wd g a b
  have wa := wd_getD g a
  have wb := wd_getD g b
  have m1 : xs.getD a 0 % 2 ^ 32 < 2 ^ 32 := Nat.mod_lt _ (by decide)
  have m2 : xs.getD b 0 % 2 ^ 32 < 2 ^ 32 := Nat.mod_lt _ (by decide)
  have c1 : CMul ((2 : Nat) : Int) ((xs.getD a 0 % 2 ^ 32 : Nat) : Int) := cmul_nat (by decide) (by omega)
  have c2 : CMul ((2 * (xs.getD a 0 % 2 ^ 32) : Nat) : Int) ((xs.getD b 0 % 2 ^ 32 : Nat) : Int) := cmul_nat (by omega) (by omega)
  have hm1 : ∀ {h : Heap}, fMul h (.v (.int 2)) (.v (.int ((xs.getD a 0 % 2 ^ 32 : Nat) : Int))) = some (.v (.int ((2 * (xs.getD a 0 % 2 ^ 32) : Nat) : Int))) := fun {h} => (mul_ii c1).trans (by rw [← Int.natCast_mul])
  have hm2 : ∀ {h : Heap}, fMul h (.v (.int ((2 * (xs.getD a 0 % 2 ^ 32) : Nat) : Int))) (.v (.int ((xs.getD b 0 % 2 ^ 32 : Nat) : Int))) = some (.v (.int ((2 * (xs.getD a 0 % 2 ^ 32) * (xs.getD b 0 % 2 ^ 32) : Nat) : Int))) := fun {h} => (mul_ii c2).trans (by rw [← Int.natCast_mul])
  have d32 : ∀ {h : Heap} (w : Nat), fMod h (.v (.int (w : Int))) (.v (.int 4294967296)) = some (.v (.int ((w % 2 ^ 32 : Nat) : Int))) := fun {h} w => (mod_ii (by decide)).trans (by rw [← n_mod2]; rfl)
  have d64 : ∀ {h : Heap} (w : Nat), fMod h (.v (.int (w : Int))) (.v (.int 18446744073709551616)) = some (.v (.int ((w % 2 ^ 64 : Nat) : Int))) := fun {h} w => (mod_ii (by decide)).trans (by rw [← n_mod2]; rfl)
  have e1 : ((xs.getD a 0 : Nat) : Int) + ((xs.getD b 0 : Nat) : Int) + ((2 * (xs.getD a 0 % 2 ^ 32) * (xs.getD b 0 % 2 ^ 32) : Nat) : Int) = ((xs.getD a 0 + xs.getD b 0 + 2 * (xs.getD a 0 % 2 ^ 32) * (xs.getD b 0 % 2 ^ 32) : Nat) : Int) := by rw [← Int.natCast_add, ← Int.natCast_add]
  have eb : (xs.getD a 0 + xs.getD b 0 + 2 * (xs.getD a 0 % 2 ^ 32) * (xs.getD b 0 % 2 ^ 32)) % 2 ^ 64 = bl (xs.getD a 0) (xs.getD b 0) := rfl
  have i1 : L2.ixN L (a : Int) = some a := ixN_nat ha
  have i2 : L2.ixN L (d : Int) = some d := ixN_nat hd
  have hsb : xs.set a (bl (xs.getD a 0) (xs.getD b 0)) = sB xs a b := rfl
  have hw : (sB xs a b).getD d 0 ^^^ (sB xs a b).getD a 0 < 2 ^ 64 := Nat.xor_lt_two_pow (wd_getD g1 d) (wd_getD g1 a)
  have ek : (64 : Int) - (k : Int) = ((64 - k : Nat) : Int) := by omega
  have cs : (PySem.Builtin.Int.intBits (((sB xs a b).getD d 0 ^^^ (sB xs a b).getD a 0 : Nat) : Int) : Int) + ((64 - k : Nat) : Int) ≤ 2 ^ 27 := by
    have := intBits_nat (n := 63) hw
    omega
  have er := ro_eq (k := k) hw
  have hsr : (sB xs a b).set d (ro ((sB xs a b).getD d 0 ^^^ (sB xs a b).getD a 0) k) = half xs a b d k := rfl
  rw [er] at hsr
  simp only [q_C, q_Var, q_evv, q_evo, q_evw, q_e1, q_e1k, q_e2, q_e2k, q_e2j, q_aNil, q_aCons, q_ack, q_acj, q_argv, q_argo, q_argw, q_keeps, q_keepsN, q_kpc, q_keepv, q_keepo, q_Tup, q_etk, q_etj, q_Lst, q_elk, q_elj, q_Call, q_If, q_ift, q_iff, q_tB, q_tbk, q_tTru, q_ttk, q_tAnd, q_takt, q_takf, q_tOr, q_tokt, q_tokf, q_tNot, q_tnk, q_tYes, q_And, q_ndk, q_ndt, q_ndf, q_Or, q_ork, q_ort, q_orf, q_Not, q_ntk, q_ntj, q_trN, q_trB, q_trI, q_trT, q_trR, q_trO, q_trW, q_Chain, q_chk, q_chj, q_chit, q_chif, q_sNil, q_sPass, q_sCons, q_sSet, q_ssv, q_sso, q_sOwn, q_sok, q_sHeap, q_shk, q_sFrz, q_sfj, q_sExpr, q_sxk, q_sRet, q_srv, q_sro, q_sRetOwn, q_roj, q_sRetN, q_sBreak, q_sCont, q_sIf, q_sift, q_siff, q_sApp, q_sapj, q_sapv, q_sapo, q_sExt, q_sexj, q_sexk, q_sexm, q_llo, q_llw, q_llr, q_sSetIx, q_sixv, q_sixo, q_sixj, q_sixl, q_sixm, q_sSetHp, q_hpv, q_hpo, q_hpj, q_hpl, q_hpm, q_hpn, q_sAugHp, q_agk, q_agj, q_agl, q_agm, q_agn, q_ago, q_agp, q_sUnp, q_unk, q_setc, q_setn, q_sPar2, q_p2v, q_p2o, q_p2jv, q_p2jo, q_sAug, q_auj, q_aul, q_aumv, q_aumo, q_sWhile, q_wht, q_whf, q_frk, q_forN, q_forC, q_flk, q_putN, q_putT, q_iok, q_ioj, q_svT, q_svR, q_svS, q_svO, q_seT, q_seR, q_seS, q_seO, q_seW, q_iView, q_ivw, q_ivv, q_iRng1, q_irk, q_Sl, q_slk1, q_slk2, q_slk3, q_ePN, q_ePS, q_epk, q_cutT, q_cutR, q_cutS, q_cutO, q_cutW, q_SlSt, q_stk1, q_stk2, q_stk3, q_revO, q_revR, q_revW, q_LR, q_lrk, q_lrj, q_iRng2, q_r2k, q_r2j, q_iRng3, q_r3k, q_r3j, q_r3i, q_sUnpL, q_ulk, q_ulj, q_lkO, q_lkR, q_lkW, q_lkT, q_sExtA, q_xaj, q_xak, q_xam, q_laO, q_laW, q_laR, q_laT, q_LR3, q_l3k, q_l3j, q_l3i, q_sSetSl, q_ssk2, q_ssj, q_ssl, q_ssm, q_ssn, opt_some, opt_none, EO.bind_ok, EO.bind_ex, EO.then_ok, EO.then_ex, SO.seq_nx, SO.seq_rt, SO.seq_bk, SO.seq_ct, SO.seq_ex, SO.turn_nx, SO.turn_ct, SO.turn_bk, SO.turn_rt, SO.turn_ex, add_ii, sub_ii, and_ii, or_ii, xor_ii, lt_ii, le_ii, gt_ii, ge_ii, max_ii, min_ii, neg_i, abs_i, int_i, eq_ii, ne_ii, len_tup, len_ro, len_own, len_view, list_tup, list_ro, list_scr, list_own, list_view, tuple_tup, tuple_ro, tuple_own, tuple_view, at0, at1, at2, at3, ix_tup, ix_ro, ix_own, ix_view, Option.map_some, line, List.getElem?_cons_zero, List.getElem?_cons_succ, List.getElem?_nil, List.set_cons_zero, List.set_cons_succ, List.set_nil, List.length_cons, List.length_nil, List.map_cons, List.map_nil, List.cons_append, List.nil_append, List.replicate, Bool.not_true, Bool.not_false, if_true, if_false, Bool.false_eq_true, reduceIte, Nat.reduceAdd, Nat.reduceSub, Nat.reduceLeDiff, Nat.reduceEqDiff, decide_true, decide_false, ix_obj hm, wd_at g ha, wd_at g hb, d32, hm1, hm2, e1, d64, eb, hm, nats_len, g.1, i1, nats_set, hsb, ix_obj (hset _), wd_at g1 hd, wd_at g1 ha, n_xor, ek, shl_ii (Int.natCast_nonneg _) cs, shr_ii (Int.natCast_nonneg _), Int.toNat_natCast, n_mul2, n_div2, n_or, hset, g1.1, i2, hsr, List.set_set]
  exact fin_lenN List.length_set
theorem len9 {r : Env} (h : r.length = 9) : ∃ a b c d e f g i j, r = [a, b, c, d, e, f, g, i, j] := by
  match r, h with
  | [a, b, c, d, e, f, g, i, j], _ => exact ⟨a, b, c, d, e, f, g, i, j, rfl⟩
def fP (P : List Nat) (v : Val) : Val := match v with
  | .int k => .int (P.getD k.toNat 0 : Nat)
  | _ => .none
theorem pl_at {P : List Nat} (hl : P.length = 16) {i : Nat} (h : i < 16) : L2.atI (vNats P) (i : Int) = some (.int (P.getD i 0 : Nat)) := by
  rw [nats_at (by rw [hl]; exact h), List.getD_eq_getElem?_getD, List.getElem?_eq_getElem (by rw [hl]; exact h)]
  rfl
theorem pl_lt {P : List Nat} {L : Nat} (hl : P.length = 16) (hP : ∀ x, x ∈ P → x < L) {i : Nat} (h : i < 16) : P.getD i 0 < L := by
  rw [List.getD_eq_getElem?_getD, List.getElem?_eq_getElem (by rw [hl]; exact h)]
  exact hP _ (List.getElem_mem _)
theorem stirred_turn {h : Heap} {m L : Nat} {xs P : List Nat} (g : Wd L xs) (hm : h[m]? = some (.lst (vNats xs))) (hl : P.length = 16) (hP : ∀ x, x ∈ P → x < L) {a b c d : Nat} (ha : a < 16) (hb : b < 16) (hc : c < 16) (hd : d < 16) {y2 y4 y5 y6 y7 y8 : Option RV} :
    ∃ z4 z5 z6 z7 z8, l__law_stirred_2 [some (.v (.obj m)), some (.v (.ro (vNats P))), y2, some (.v (.tup [.int (a : Int), .int (b : Int), .int (c : Int), .int (d : Int)])), y4, y5, y6, y7, y8] h =
      .nx [some (.v (.obj m)), some (.v (.ro (vNats P))), y2, some (.v (.tup [.int (a : Int), .int (b : Int), .int (c : Int), .int (d : Int)])), z4, z5, z6, z7, z8] (h.set m (.lst (vNats (quad xs (P.getD a 0) (P.getD b 0) (P.getD c 0) (P.getD d 0))))) := by
  have hlt : m < h.length := (List.getElem?_eq_some_iff.mp hm).1
  have hset : ∀ o, (h.set m o)[m]? = some o := fun o => List.getElem?_set_self hlt
  have el : eLc [8] (.nm 8) (iSeqE (eVar 3)) tYes c__law_stirred_1 [some (.v (.obj m)), some (.v (.ro (vNats P))), y2, some (.v (.tup [.int (a : Int), .int (b : Int), .int (c : Int), .int (d : Int)])), y4, y5, y6, y7, y8] h = .ok (.own ([Val.int (a : Int), .int (b : Int), .int (c : Int), .int (d : Int)].map (fP P))) h :=
    lc_map (fP P) (dep := []) (by simp only [q_C, q_Var, q_evv, q_evo, q_evw, q_e1, q_e1k, q_e2, q_e2k, q_e2j, q_aNil, q_aCons, q_ack, q_acj, q_argv, q_argo, q_argw, q_keeps, q_keepsN, q_kpc, q_keepv, q_keepo, q_Tup, q_etk, q_etj, q_Lst, q_elk, q_elj, q_Call, q_If, q_ift, q_iff, q_tB, q_tbk, q_tTru, q_ttk, q_tAnd, q_takt, q_takf, q_tOr, q_tokt, q_tokf, q_tNot, q_tnk, q_tYes, q_And, q_ndk, q_ndt, q_ndf, q_Or, q_ork, q_ort, q_orf, q_Not, q_ntk, q_ntj, q_trN, q_trB, q_trI, q_trT, q_trR, q_trO, q_trW, q_Chain, q_chk, q_chj, q_chit, q_chif, q_sNil, q_sPass, q_sCons, q_sSet, q_ssv, q_sso, q_sOwn, q_sok, q_sHeap, q_shk, q_sFrz, q_sfj, q_sExpr, q_sxk, q_sRet, q_srv, q_sro, q_sRetOwn, q_roj, q_sRetN, q_sBreak, q_sCont, q_sIf, q_sift, q_siff, q_sApp, q_sapj, q_sapv, q_sapo, q_sExt, q_sexj, q_sexk, q_sexm, q_llo, q_llw, q_llr, q_sSetIx, q_sixv, q_sixo, q_sixj, q_sixl, q_sixm, q_sSetHp, q_hpv, q_hpo, q_hpj, q_hpl, q_hpm, q_hpn, q_sAugHp, q_agk, q_agj, q_agl, q_agm, q_agn, q_ago, q_agp, q_sUnp, q_unk, q_setc, q_setn, q_sPar2, q_p2v, q_p2o, q_p2jv, q_p2jo, q_sAug, q_auj, q_aul, q_aumv, q_aumo, q_sWhile, q_wht, q_whf, q_frk, q_forN, q_forC, q_flk, q_putN, q_putT, q_iok, q_ioj, q_svT, q_svR, q_svS, q_svO, q_seT, q_seR, q_seS, q_seO, q_seW, q_iView, q_ivw, q_ivv, q_iRng1, q_irk, q_Sl, q_slk1, q_slk2, q_slk3, q_ePN, q_ePS, q_epk, q_cutT, q_cutR, q_cutS, q_cutO, q_cutW, q_SlSt, q_stk1, q_stk2, q_stk3, q_revO, q_revR, q_revW, q_LR, q_lrk, q_lrj, q_iRng2, q_r2k, q_r2j, q_iRng3, q_r3k, q_r3j, q_r3i, q_sUnpL, q_ulk, q_ulj, q_lkO, q_lkR, q_lkW, q_lkT, q_sExtA, q_xaj, q_xak, q_xam, q_laO, q_laW, q_laR, q_laT, q_LR3, q_l3k, q_l3j, q_l3i, q_sSetSl, q_ssk2, q_ssj, q_ssl, q_ssm, q_ssn, opt_some, opt_none, EO.bind_ok, EO.bind_ex, EO.then_ok, EO.then_ex, SO.seq_nx, SO.seq_rt, SO.seq_bk, SO.seq_ct, SO.seq_ex, SO.turn_nx, SO.turn_ct, SO.turn_bk, SO.turn_rt, SO.turn_ex, add_ii, sub_ii, and_ii, or_ii, xor_ii, lt_ii, le_ii, gt_ii, ge_ii, max_ii, min_ii, neg_i, abs_i, int_i, eq_ii, ne_ii, len_tup, len_ro, len_own, len_view, list_tup, list_ro, list_scr, list_own, list_view, tuple_tup, tuple_ro, tuple_own, tuple_view, at0, at1, at2, at3, ix_tup, ix_ro, ix_own, ix_view, Option.map_some, line, List.getElem?_cons_zero, List.getElem?_cons_succ, List.getElem?_nil, List.set_cons_zero, List.set_cons_succ, List.set_nil, List.length_cons, List.length_nil, List.map_cons, List.map_nil, List.cons_append, List.nil_append, List.replicate, Bool.not_true, Bool.not_false, if_true, if_false, Bool.false_eq_true, reduceIte, Nat.reduceAdd, Nat.reduceSub, Nat.reduceLeDiff, Nat.reduceEqDiff, decide_true, decide_false, q_iOf]) (by show 4 ≤ 16777216; decide) fun x hx => by
      have : ∃ i : Nat, i < 16 ∧ x = .int (i : Int) := by
        simp only [List.mem_cons, List.not_mem_nil, or_false] at hx
        rcases hx with h | h | h | h
        · exact ⟨a, ha, h⟩
        · exact ⟨b, hb, h⟩
        · exact ⟨c, hc, h⟩
        · exact ⟨d, hd, h⟩
      obtain ⟨i, hi, rfl⟩ := this
      refine ⟨_, rfl, ?_⟩
      unfold c__law_stirred_1
      show e2 fIx (eVar 1) (eVar 8) [some (.v (.obj m)), some (.v (.ro (vNats P))), y2, some (.v (.tup [.int (a : Int), .int (b : Int), .int (c : Int), .int (d : Int)])), y4, y5, y6, y7, some (.v (.int (i : Int)))] h = EO.ok (.v (.int (P.getD i 0 : Nat))) h
      simp only [q_C, q_Var, q_evv, q_evo, q_evw, q_e1, q_e1k, q_e2, q_e2k, q_e2j, q_aNil, q_aCons, q_ack, q_acj, q_argv, q_argo, q_argw, q_keeps, q_keepsN, q_kpc, q_keepv, q_keepo, q_Tup, q_etk, q_etj, q_Lst, q_elk, q_elj, q_Call, q_If, q_ift, q_iff, q_tB, q_tbk, q_tTru, q_ttk, q_tAnd, q_takt, q_takf, q_tOr, q_tokt, q_tokf, q_tNot, q_tnk, q_tYes, q_And, q_ndk, q_ndt, q_ndf, q_Or, q_ork, q_ort, q_orf, q_Not, q_ntk, q_ntj, q_trN, q_trB, q_trI, q_trT, q_trR, q_trO, q_trW, q_Chain, q_chk, q_chj, q_chit, q_chif, q_sNil, q_sPass, q_sCons, q_sSet, q_ssv, q_sso, q_sOwn, q_sok, q_sHeap, q_shk, q_sFrz, q_sfj, q_sExpr, q_sxk, q_sRet, q_srv, q_sro, q_sRetOwn, q_roj, q_sRetN, q_sBreak, q_sCont, q_sIf, q_sift, q_siff, q_sApp, q_sapj, q_sapv, q_sapo, q_sExt, q_sexj, q_sexk, q_sexm, q_llo, q_llw, q_llr, q_sSetIx, q_sixv, q_sixo, q_sixj, q_sixl, q_sixm, q_sSetHp, q_hpv, q_hpo, q_hpj, q_hpl, q_hpm, q_hpn, q_sAugHp, q_agk, q_agj, q_agl, q_agm, q_agn, q_ago, q_agp, q_sUnp, q_unk, q_setc, q_setn, q_sPar2, q_p2v, q_p2o, q_p2jv, q_p2jo, q_sAug, q_auj, q_aul, q_aumv, q_aumo, q_sWhile, q_wht, q_whf, q_frk, q_forN, q_forC, q_flk, q_putN, q_putT, q_iok, q_ioj, q_svT, q_svR, q_svS, q_svO, q_seT, q_seR, q_seS, q_seO, q_seW, q_iView, q_ivw, q_ivv, q_iRng1, q_irk, q_Sl, q_slk1, q_slk2, q_slk3, q_ePN, q_ePS, q_epk, q_cutT, q_cutR, q_cutS, q_cutO, q_cutW, q_SlSt, q_stk1, q_stk2, q_stk3, q_revO, q_revR, q_revW, q_LR, q_lrk, q_lrj, q_iRng2, q_r2k, q_r2j, q_iRng3, q_r3k, q_r3j, q_r3i, q_sUnpL, q_ulk, q_ulj, q_lkO, q_lkR, q_lkW, q_lkT, q_sExtA, q_xaj, q_xak, q_xam, q_laO, q_laW, q_laR, q_laT, q_LR3, q_l3k, q_l3j, q_l3i, q_sSetSl, q_ssk2, q_ssj, q_ssl, q_ssm, q_ssn, opt_some, opt_none, EO.bind_ok, EO.bind_ex, EO.then_ok, EO.then_ex, SO.seq_nx, SO.seq_rt, SO.seq_bk, SO.seq_ct, SO.seq_ex, SO.turn_nx, SO.turn_ct, SO.turn_bk, SO.turn_rt, SO.turn_ex, add_ii, sub_ii, and_ii, or_ii, xor_ii, lt_ii, le_ii, gt_ii, ge_ii, max_ii, min_ii, neg_i, abs_i, int_i, eq_ii, ne_ii, len_tup, len_ro, len_own, len_view, list_tup, list_ro, list_scr, list_own, list_view, tuple_tup, tuple_ro, tuple_own, tuple_view, at0, at1, at2, at3, ix_tup, ix_ro, ix_own, ix_view, Option.map_some, line, List.getElem?_cons_zero, List.getElem?_cons_succ, List.getElem?_nil, List.set_cons_zero, List.set_cons_succ, List.set_nil, List.length_cons, List.length_nil, List.map_cons, List.map_nil, List.cons_append, List.nil_append, List.replicate, Bool.not_true, Bool.not_false, if_true, if_false, Bool.false_eq_true, reduceIte, Nat.reduceAdd, Nat.reduceSub, Nat.reduceLeDiff, Nat.reduceEqDiff, decide_true, decide_false, pl_at hl hi]
  have em : [Val.int (a : Int), .int (b : Int), .int (c : Int), .int (d : Int)].map (fP P) = [.int (P.getD a 0 : Nat), .int (P.getD b 0 : Nat), .int (P.getD c 0 : Nat), .int (P.getD d 0 : Nat)] := rfl
  rw [em] at el
  have pa := pl_lt hl hP ha
  have pb := pl_lt hl hP hb
  have pc := pl_lt hl hP hc
  have pd := pl_lt hl hP hd
  generalize P.getD a 0 = pa' at *
  generalize P.getD b 0 = pb' at *
  generalize P.getD c 0 = pc' at *
  generalize P.getD d 0 = pd' at *
  have g1 := half_wd g pa' pb' pd' 32
  have g2 := half_wd g1 pc' pd' pb' 24
  have g3 := half_wd g2 pa' pb' pd' 16
  have h1 := half_ok (k := 32) (kI := 32) g hm pa pb pd (by decide) rfl
  have h2 := half_ok (k := 24) (kI := 24) g1 (hset _) pc pd pb (by decide) rfl
  have h3 := half_ok (k := 16) (kI := 16) g2 (hset _) pa pb pd (by decide) rfl
  have h4 := half_ok (k := 63) (kI := 63) g3 (hset _) pc pd pb (by decide) rfl
  rw [List.set_set] at h2 h3 h4
  refine ⟨some (.v (.int (pa' : Int))), some (.v (.int (pb' : Int))), some (.v (.int (pc' : Int))), some (.v (.int (pd' : Int))), y8, ?_⟩
  unfold l__law_stirred_2
  simp only [q_C, q_Var, q_evv, q_evo, q_evw, q_e1, q_e1k, q_e2, q_e2k, q_e2j, q_aNil, q_aCons, q_ack, q_acj, q_argv, q_argo, q_argw, q_keeps, q_keepsN, q_kpc, q_keepv, q_keepo, q_Tup, q_etk, q_etj, q_Lst, q_elk, q_elj, q_Call, q_If, q_ift, q_iff, q_tB, q_tbk, q_tTru, q_ttk, q_tAnd, q_takt, q_takf, q_tOr, q_tokt, q_tokf, q_tNot, q_tnk, q_tYes, q_And, q_ndk, q_ndt, q_ndf, q_Or, q_ork, q_ort, q_orf, q_Not, q_ntk, q_ntj, q_trN, q_trB, q_trI, q_trT, q_trR, q_trO, q_trW, q_Chain, q_chk, q_chj, q_chit, q_chif, q_sNil, q_sPass, q_sCons, q_sSet, q_ssv, q_sso, q_sOwn, q_sok, q_sHeap, q_shk, q_sFrz, q_sfj, q_sExpr, q_sxk, q_sRet, q_srv, q_sro, q_sRetOwn, q_roj, q_sRetN, q_sBreak, q_sCont, q_sIf, q_sift, q_siff, q_sApp, q_sapj, q_sapv, q_sapo, q_sExt, q_sexj, q_sexk, q_sexm, q_llo, q_llw, q_llr, q_sSetIx, q_sixv, q_sixo, q_sixj, q_sixl, q_sixm, q_sSetHp, q_hpv, q_hpo, q_hpj, q_hpl, q_hpm, q_hpn, q_sAugHp, q_agk, q_agj, q_agl, q_agm, q_agn, q_ago, q_agp, q_sUnp, q_unk, q_setc, q_setn, q_sPar2, q_p2v, q_p2o, q_p2jv, q_p2jo, q_sAug, q_auj, q_aul, q_aumv, q_aumo, q_sWhile, q_wht, q_whf, q_frk, q_forN, q_forC, q_flk, q_putN, q_putT, q_iok, q_ioj, q_svT, q_svR, q_svS, q_svO, q_seT, q_seR, q_seS, q_seO, q_seW, q_iView, q_ivw, q_ivv, q_iRng1, q_irk, q_Sl, q_slk1, q_slk2, q_slk3, q_ePN, q_ePS, q_epk, q_cutT, q_cutR, q_cutS, q_cutO, q_cutW, q_SlSt, q_stk1, q_stk2, q_stk3, q_revO, q_revR, q_revW, q_LR, q_lrk, q_lrj, q_iRng2, q_r2k, q_r2j, q_iRng3, q_r3k, q_r3j, q_r3i, q_sUnpL, q_ulk, q_ulj, q_lkO, q_lkR, q_lkW, q_lkT, q_sExtA, q_xaj, q_xak, q_xam, q_laO, q_laW, q_laR, q_laT, q_LR3, q_l3k, q_l3j, q_l3i, q_sSetSl, q_ssk2, q_ssj, q_ssl, q_ssm, q_ssn, opt_some, opt_none, EO.bind_ok, EO.bind_ex, EO.then_ok, EO.then_ex, SO.seq_nx, SO.seq_rt, SO.seq_bk, SO.seq_ct, SO.seq_ex, SO.turn_nx, SO.turn_ct, SO.turn_bk, SO.turn_rt, SO.turn_ex, add_ii, sub_ii, and_ii, or_ii, xor_ii, lt_ii, le_ii, gt_ii, ge_ii, max_ii, min_ii, neg_i, abs_i, int_i, eq_ii, ne_ii, len_tup, len_ro, len_own, len_view, list_tup, list_ro, list_scr, list_own, list_view, tuple_tup, tuple_ro, tuple_own, tuple_view, at0, at1, at2, at3, ix_tup, ix_ro, ix_own, ix_view, Option.map_some, line, List.getElem?_cons_zero, List.getElem?_cons_succ, List.getElem?_nil, List.set_cons_zero, List.set_cons_succ, List.set_nil, List.length_cons, List.length_nil, List.map_cons, List.map_nil, List.cons_append, List.nil_append, List.replicate, Bool.not_true, Bool.not_false, if_true, if_false, Bool.false_eq_true, reduceIte, Nat.reduceAdd, Nat.reduceSub, Nat.reduceLeDiff, Nat.reduceEqDiff, decide_true, decide_false, el, h1, h2, h3, h4]
  rfl
theorem stirred_ok {h : Heap} {m L : Nat} {xs P : List Nat} (g : Wd L xs) (hm : h[m]? = some (.lst (vNats xs))) (hl : P.length = 16) (hP : ∀ x, x ∈ P → x < L) : f__law_stirred [.v (.obj m), .v (.ro (vNats P))] h = .ok (.v .none) (h.set m (.lst (vNats (stirP P xs)))) ∧ Wd L (stirP P xs) := by
  have hlt : m < h.length := (List.getElem?_eq_some_iff.mp hm).1
  have h0 : h = h.set m (.lst (vNats xs)) := by
    refine List.ext_getElem? fun k => ?_
    by_cases hk : m = k
    · subst hk; rw [List.getElem?_set_self hlt, hm]
    · rw [List.getElem?_set_ne hk]
  have := for_fold (g := .nm 3) (it := iView 2) (b := l__law_stirred_2) (r := [some (.v (.obj m)), some (.v (.ro (vNats P))), some (.v (.tup qsV)), none, none, none, none, none, none]) (h := h) (h1 := h) (xs := qsV) (qp P) (fun a r h' => Wd L a ∧ h' = h.set m (.lst (vNats a)) ∧ r.length = 9 ∧ r[0]? = some (some (.v (.obj m))) ∧ r[1]? = some (some (.v (.ro (vNats P))))) xs rfl ⟨g, h0, rfl, rfl, rfl⟩ fun v hv a r h' ⟨ga, e, l, e0, e1⟩ => by
    obtain ⟨x, y, z, u, hx, hy, hz, hu, _, rfl⟩ := stp_of hv
    subst e
    obtain ⟨a0, a1, a2, a3, a4, a5, a6, a7, a8, rfl⟩ := len9 l
    cases (show a0 = some (.v (.obj m)) from Option.some.inj e0)
    cases (show a1 = some (.v (.ro (vNats P))) from Option.some.inj e1)
    obtain ⟨z4, z5, z6, z7, z8, et⟩ := stirred_turn ga (List.getElem?_set_self hlt) hl hP hx hy hz hu (y2 := a2) (y4 := a4) (y5 := a5) (y6 := a6) (y7 := a7) (y8 := a8)
    exact ⟨_, rfl, _, _, et, by rw [qp_tup]; exact quad_wd ga _ _ _ _, by rw [List.set_set, qp_tup], rfl, rfl, rfl⟩
  obtain ⟨r2, h2, e, p1, p2, _⟩ := this
  refine ⟨?_, p1⟩
  unfold f__law_stirred
  rw [mkFn_eq]
  unfold b__law_stirred
  have ea : ∀ {h : Heap}, fAdd h (.v (.tup [(.tup [(.int 0), (.int 4), (.int 8), (.int 12)]), (.tup [(.int 1), (.int 5), (.int 9), (.int 13)]), (.tup [(.int 2), (.int 6), (.int 10), (.int 14)]), (.tup [(.int 3), (.int 7), (.int 11), (.int 15)])])) (.v (.tup [(.tup [(.int 0), (.int 5), (.int 10), (.int 15)]), (.tup [(.int 1), (.int 6), (.int 11), (.int 12)]), (.tup [(.int 2), (.int 7), (.int 8), (.int 13)]), (.tup [(.int 3), (.int 4), (.int 9), (.int 14)])])) = some (.v (.tup qsV)) := fun {h} => rfl
  simp only [q_C, q_Var, q_evv, q_evo, q_evw, q_e1, q_e1k, q_e2, q_e2k, q_e2j, q_aNil, q_aCons, q_ack, q_acj, q_argv, q_argo, q_argw, q_keeps, q_keepsN, q_kpc, q_keepv, q_keepo, q_Tup, q_etk, q_etj, q_Lst, q_elk, q_elj, q_Call, q_If, q_ift, q_iff, q_tB, q_tbk, q_tTru, q_ttk, q_tAnd, q_takt, q_takf, q_tOr, q_tokt, q_tokf, q_tNot, q_tnk, q_tYes, q_And, q_ndk, q_ndt, q_ndf, q_Or, q_ork, q_ort, q_orf, q_Not, q_ntk, q_ntj, q_trN, q_trB, q_trI, q_trT, q_trR, q_trO, q_trW, q_Chain, q_chk, q_chj, q_chit, q_chif, q_sNil, q_sPass, q_sCons, q_sSet, q_ssv, q_sso, q_sOwn, q_sok, q_sHeap, q_shk, q_sFrz, q_sfj, q_sExpr, q_sxk, q_sRet, q_srv, q_sro, q_sRetOwn, q_roj, q_sRetN, q_sBreak, q_sCont, q_sIf, q_sift, q_siff, q_sApp, q_sapj, q_sapv, q_sapo, q_sExt, q_sexj, q_sexk, q_sexm, q_llo, q_llw, q_llr, q_sSetIx, q_sixv, q_sixo, q_sixj, q_sixl, q_sixm, q_sSetHp, q_hpv, q_hpo, q_hpj, q_hpl, q_hpm, q_hpn, q_sAugHp, q_agk, q_agj, q_agl, q_agm, q_agn, q_ago, q_agp, q_sUnp, q_unk, q_setc, q_setn, q_sPar2, q_p2v, q_p2o, q_p2jv, q_p2jo, q_sAug, q_auj, q_aul, q_aumv, q_aumo, q_sWhile, q_wht, q_whf, q_frk, q_forN, q_forC, q_flk, q_putN, q_putT, q_iok, q_ioj, q_svT, q_svR, q_svS, q_svO, q_seT, q_seR, q_seS, q_seO, q_seW, q_iView, q_ivw, q_ivv, q_iRng1, q_irk, q_Sl, q_slk1, q_slk2, q_slk3, q_ePN, q_ePS, q_epk, q_cutT, q_cutR, q_cutS, q_cutO, q_cutW, q_SlSt, q_stk1, q_stk2, q_stk3, q_revO, q_revR, q_revW, q_LR, q_lrk, q_lrj, q_iRng2, q_r2k, q_r2j, q_iRng3, q_r3k, q_r3j, q_r3i, q_sUnpL, q_ulk, q_ulj, q_lkO, q_lkR, q_lkW, q_lkT, q_sExtA, q_xaj, q_xak, q_xam, q_laO, q_laW, q_laR, q_laT, q_LR3, q_l3k, q_l3j, q_l3i, q_sSetSl, q_ssk2, q_ssj, q_ssl, q_ssm, q_ssn, opt_some, opt_none, EO.bind_ok, EO.bind_ex, EO.then_ok, EO.then_ex, SO.seq_nx, SO.seq_rt, SO.seq_bk, SO.seq_ct, SO.seq_ex, SO.turn_nx, SO.turn_ct, SO.turn_bk, SO.turn_rt, SO.turn_ex, add_ii, sub_ii, and_ii, or_ii, xor_ii, lt_ii, le_ii, gt_ii, ge_ii, max_ii, min_ii, neg_i, abs_i, int_i, eq_ii, ne_ii, len_tup, len_ro, len_own, len_view, list_tup, list_ro, list_scr, list_own, list_view, tuple_tup, tuple_ro, tuple_own, tuple_view, at0, at1, at2, at3, ix_tup, ix_ro, ix_own, ix_view, Option.map_some, line, List.getElem?_cons_zero, List.getElem?_cons_succ, List.getElem?_nil, List.set_cons_zero, List.set_cons_succ, List.set_nil, List.length_cons, List.length_nil, List.map_cons, List.map_nil, List.cons_append, List.nil_append, List.replicate, Bool.not_true, Bool.not_false, if_true, if_false, Bool.false_eq_true, reduceIte, Nat.reduceAdd, Nat.reduceSub, Nat.reduceLeDiff, Nat.reduceEqDiff, decide_true, decide_false, ea, e, p2]
  exact fin_lenN List.length_set
/-! ### through places -/
def gather (z P : List Nat) : List Nat := P.map fun p => z.getD p 0
theorem g_len {z P : List Nat} : (gather z P).length = P.length := List.length_map _
theorem p_getD {P : List Nat} {j : Nat} (hj : j < P.length) : P.getD j 0 = P[j] := by
  rw [List.getD_eq_getElem?_getD, List.getElem?_eq_getElem hj]
  rfl
theorem g_get {z P : List Nat} {j : Nat} (hj : j < P.length) : (gather z P).getD j 0 = z.getD (P.getD j 0) 0 := by
  rw [p_getD (P := gather z P) (by rw [g_len]; exact hj), p_getD hj]
  unfold gather
  rw [List.getElem_map]
theorem getD_set {z : List Nat} {i j v : Nat} (hi : i < z.length) : (z.set i v).getD j 0 = if i = j then v else z.getD j 0 := by
  rw [List.getD_eq_getElem?_getD, List.getD_eq_getElem?_getD, List.getElem?_set]
  by_cases h : i = j
  · subst h
    rw [if_pos rfl, if_pos rfl, if_pos hi]
    rfl
  · rw [if_neg h, if_neg h]
theorem nodup_inj : ∀ {P : List Nat} (hn : P.Nodup) {i j : Nat} (hi : i < P.length) (hj : j < P.length), P[i] = P[j] → i = j
  | [], _, _, _, hi, _, _ => absurd hi (Nat.not_lt_zero _)
  | p :: P, hn, 0, 0, _, _, _ => rfl
  | p :: P, hn, 0, j + 1, _, hj, e => absurd (show p ∈ P by
      have e : p = P[j]'(by simpa using hj) := e
      rw [e]; exact List.getElem_mem _) (List.nodup_cons.mp hn).1
  | p :: P, hn, i + 1, 0, hi, _, e => absurd (show p ∈ P by
      have e : P[i]'(by simpa using hi) = p := e
      rw [← e]; exact List.getElem_mem _) (List.nodup_cons.mp hn).1
  | p :: P, hn, i + 1, j + 1, hi, hj, e => by
    have := nodup_inj (List.nodup_cons.mp hn).2 (i := i) (j := j) (by simpa using hi) (by simpa using hj) e
    omega
theorem g_set {z P : List Nat} {j v : Nat} (hn : P.Nodup) (hP : ∀ x, x ∈ P → x < z.length) (hj : j < P.length) : gather (z.set (P.getD j 0) v) P = (gather z P).set j v := by
  have hm : P.getD j 0 < z.length := by
    rw [p_getD hj]
    exact hP _ (List.getElem_mem hj)
  refine List.ext_getElem (by rw [g_len, List.length_set, g_len]) fun i h1 h2 => ?_
  rw [g_len] at h1
  have q1 : (gather (z.set (P.getD j 0) v) P)[i]'(by rw [g_len]; exact h1) = (z.set (P.getD j 0) v).getD P[i] 0 := by simp only [gather, List.getElem_map]
  have q2 : (gather z P)[i]'(by rw [g_len]; exact h1) = z.getD P[i] 0 := by simp only [gather, List.getElem_map]
  rw [q1, List.getElem_set, q2, getD_set hm]
  by_cases h : j = i
  · subst h
    rw [if_pos rfl, if_pos (p_getD hj)]
  · rw [if_neg h, if_neg fun e => h (nodup_inj hn hj h1 ((p_getD hj).symm.trans e))]
structure RP (L : Nat) (P xs z ys : List Nat) : Prop where
  wd : Wd L z
  g : gather z P = ys
  out : ∀ i, i ∉ P → z[i]? = xs[i]?
theorem RP.set {L : Nat} {P xs z ys : List Nat} (r : RP L P xs z ys) (hn : P.Nodup) (hP : ∀ x, x ∈ P → x < L) {j v : Nat} (hj : j < P.length) (hv : v < 2 ^ 64) : RP L P xs (z.set (P.getD j 0) v) (ys.set j v) := by
  refine ⟨wd_set r.wd _ hv, by rw [g_set hn (by rw [r.wd.1]; exact hP) hj, r.g], fun i hi => ?_⟩
  rw [List.getElem?_set_ne fun e => hi (by rw [← e, p_getD hj]; exact List.getElem_mem hj)]
  exact r.out i hi
theorem RP.get {L : Nat} {P xs z ys : List Nat} (r : RP L P xs z ys) {j : Nat} (hj : j < P.length) : z.getD (P.getD j 0) 0 = ys.getD j 0 := by
  rw [← g_get hj, r.g]
theorem RP.sB {L : Nat} {P xs z ys : List Nat} (r : RP L P xs z ys) (hn : P.Nodup) (hP : ∀ x, x ∈ P → x < L) {a b : Nat} (ha : a < P.length) (hb : b < P.length) : RP L P xs (sB z (P.getD a 0) (P.getD b 0)) (sB ys a b) := by
  unfold Lk50.sB
  rw [r.get ha, r.get hb]
  exact r.set hn hP ha (Nat.mod_lt _ (by decide))
theorem RP.sR {L : Nat} {P xs z ys : List Nat} (r : RP L P xs z ys) (hn : P.Nodup) (hP : ∀ x, x ∈ P → x < L) {d a k : Nat} (hd : d < P.length) (ha : a < P.length) : RP L P xs (sR z (P.getD d 0) (P.getD a 0) k) (sR ys d a k) := by
  unfold Lk50.sR
  rw [r.get ha, r.get hd]
  exact r.set hn hP hd (Nat.mod_lt _ (by decide))
theorem RP.quad {L : Nat} {P xs z ys : List Nat} (r : RP L P xs z ys) (hn : P.Nodup) (hP : ∀ x, x ∈ P → x < L) {a b c d : Nat} (ha : a < P.length) (hb : b < P.length) (hc : c < P.length) (hd : d < P.length) : RP L P xs (quad z (P.getD a 0) (P.getD b 0) (P.getD c 0) (P.getD d 0)) (quad ys a b c d) :=
  (((((((r.sB hn hP ha hb).sR hn hP hd ha).sB hn hP hc hd).sR hn hP hb hc).sB hn hP ha hb).sR hn hP hd ha).sB hn hP hc hd).sR hn hP hb hc
theorem RP.stir {L : Nat} {P xs z ys : List Nat} (r : RP L P xs z ys) (hl : P.length = 16) (hn : P.Nodup) (hP : ∀ x, x ∈ P → x < L) : RP L P xs (stirP P z) (stirN ys) := by
  unfold stirP stirN
  have : ∀ (vs : List Val) (z ys : List Nat), (∀ v, v ∈ vs → v ∈ qsV) → RP L P xs z ys → RP L P xs (vs.foldl (qp P) z) (vs.foldl qv ys) := by
    intro vs
    induction vs with
    | nil => intro z ys _ r; exact r
    | cons v vs ih =>
      intro z ys hv r
      refine ih _ _ (fun u hu => hv u (List.mem_cons_of_mem _ hu)) ?_
      obtain ⟨a, b, c, d, ha, hb, hc, hd, _, rfl⟩ := stp_of (hv v List.mem_cons_self)
      rw [qp_tup, qv_tup]
      exact r.quad hn hP (by omega) (by omega) (by omega) (by omega)
  exact this _ _ _ (fun _ h => h) r
/-- such a list is one alone -/
theorem RP.uniq {L : Nat} {P xs z z2 ys : List Nat} (r : RP L P xs z ys) (r2 : RP L P xs z2 ys) : z = z2 := by
  refine List.ext_getElem? fun i => ?_
  by_cases hi : i ∈ P
  · obtain ⟨j, hj, e⟩ := List.getElem_of_mem hi
    have e1 := r.get hj
    have e2 := r2.get hj
    rw [p_getD hj, e] at e1 e2
    by_cases hL : i < L
    · rw [List.getElem?_eq_getElem (by rw [r.wd.1]; exact hL), List.getElem?_eq_getElem (by rw [r2.wd.1]; exact hL)]
      rw [p_getD (by rw [r.wd.1]; exact hL)] at e1
      rw [p_getD (by rw [r2.wd.1]; exact hL)] at e2
      rw [e1, e2]
    · rw [List.getElem?_eq_none (by rw [r.wd.1]; omega), List.getElem?_eq_none (by rw [r2.wd.1]; omega)]
  · rw [r.out i hi, r2.out i hi]
theorem RP.refl {L : Nat} {P xs : List Nat} (g : Wd L xs) : RP L P xs xs (gather xs P) := ⟨g, rfl, fun _ _ => rfl⟩
def rowN (z : List Nat) (k : Nat) : List Nat := z.take k ++ stirN ((z.drop k).take 16) ++ z.drop (k + 16)
theorem gather_row {z : List Nat} {k : Nat} (h : k + 16 ≤ z.length) : gather z (List.range' k 16) = (z.drop k).take 16 := by
  refine List.ext_getElem (by rw [g_len, List.length_range', List.length_take, List.length_drop]; omega) fun i h1 h2 => ?_
  rw [g_len, List.length_range'] at h1
  have q1 : (gather z (List.range' k 16))[i]'(by rw [g_len, List.length_range']; exact h1) = z.getD (k + i) 0 := by simp only [gather, List.getElem_map, List.getElem_range', Nat.one_mul]
  rw [q1, List.getElem_take, List.getElem_drop, p_getD (by omega)]
theorem stirN_len {ys : List Nat} : (stirN ys).length = ys.length := by
  unfold stirN
  have : ∀ (vs : List Val) (ys : List Nat), (vs.foldl qv ys).length = ys.length := by
    intro vs
    induction vs with
    | nil => intro ys; rfl
    | cons v vs ih =>
      intro ys
      rw [List.foldl_cons, ih]
      unfold qv
      split
      · unfold quad half Lk50.sR Lk50.sB
        simp only [List.length_set]
      · rfl
  exact this _ _
theorem row_rp {z : List Nat} {k : Nat} (g : Wd 128 z) (h : k + 16 ≤ 128) : rowN z k = stirP (List.range' k 16) z := by
  have hP : ∀ x, x ∈ List.range' k 16 → x < 128 := fun x hx => by
    have := List.mem_range'_1.mp hx
    omega
  have r := (RP.refl (P := List.range' k 16) g).stir (by rw [List.length_range']) List.nodup_range' hP
  rw [gather_row (by rw [g.1]; omega)] at r
  have hw : Wd 16 ((z.drop k).take 16) := ⟨by rw [List.length_take, List.length_drop, g.1]; omega, fun x hx => g.2 x (List.mem_of_mem_drop (List.mem_of_mem_take hx))⟩
  have hl : (stirN ((z.drop k).take 16)).length = 16 := by rw [stirN_len]; exact hw.1
  have hlr : (rowN z k).length = 128 := by
    unfold rowN
    rw [List.length_append, List.length_append, hl, List.length_take, List.length_drop, g.1]
    omega
  refine RP.uniq (ys := stirN ((z.drop k).take 16)) ⟨⟨hlr, fun x hx => ?_⟩, ?_, fun i hi => ?_⟩ r
  · unfold rowN at hx
    rcases List.mem_append.mp hx with hx | hx
    · rcases List.mem_append.mp hx with hx | hx
      · exact g.2 x (List.mem_of_mem_take hx)
      · have : x ∈ gather (stirP (List.range' k 16) z) (List.range' k 16) := by rw [r.g]; exact hx
        obtain ⟨p, _, rfl⟩ := List.mem_map.mp this
        exact wd_getD r.wd p
    · exact g.2 x (List.mem_of_mem_drop hx)
  · rw [gather_row (by rw [hlr]; omega)]
    unfold rowN
    rw [List.append_assoc, List.drop_left' (by rw [List.length_take, g.1]; omega), List.take_left' hl]
  · have hi' : i < k ∨ k + 16 ≤ i := by
      by_cases h1 : i < k
      · exact .inl h1
      · by_cases h2 : k + 16 ≤ i
        · exact .inr h2
        · exact absurd (List.mem_range'_1.mpr ⟨by omega, by omega⟩) hi
    unfold rowN
    rcases hi' with h1 | h1
    · rw [List.append_assoc, List.getElem?_append_left (by rw [List.length_take, g.1]; omega), List.getElem?_take_of_lt h1]
    · rw [List.getElem?_append_right (by rw [List.length_append, hl, List.length_take, g.1]; omega), List.length_append, hl, List.length_take, g.1, List.getElem?_drop, show k + 16 + (i - (min k 128 + 16)) = i by omega]
/-! ### a row scattered -/
def scat (z P ys : List Nat) : Nat → List Nat
  | 0 => z
  | j + 1 => (scat z P ys j).set (P.getD j 0) (ys.getD j 0)
theorem scat_rp {L : Nat} {P xs z g0 ys : List Nat} (r : RP L P xs z g0) (hn : P.Nodup) (hP : ∀ x, x ∈ P → x < L) (hy : ∀ y, y ∈ ys → y < 2 ^ 64) (hl : ys.length = P.length) : ∀ j, j ≤ P.length → RP L P xs (scat z P ys j) (ys.take j ++ g0.drop j)
  | 0, _ => by
    rw [List.take_zero, List.drop_zero]
    exact r
  | j + 1, hj => by
    have hg : g0.length = P.length := by rw [← r.g, g_len]
    have ih := (scat_rp r hn hP hy hl j (by omega)).set hn hP (j := j) (v := ys.getD j 0) (by omega) (by
      rw [p_getD (by omega)]
      exact hy _ (List.getElem_mem _))
    have e : (ys.take j ++ g0.drop j).set j (ys.getD j 0) = ys.take (j + 1) ++ g0.drop (j + 1) := by
      rw [List.set_append_right _ _ (by rw [List.length_take]; omega), List.length_take, Nat.min_eq_left (by omega), Nat.sub_self, List.drop_eq_getElem_cons (by omega), List.set_cons_zero, List.take_add_one, List.getElem?_eq_getElem (by omega), p_getD (by omega), List.append_assoc]
      rfl
    rw [e] at ih
    exact ih
theorem col_rp {z P : List Nat} (g : Wd 128 z) (hl : P.length = 16) (hn : P.Nodup) (hP : ∀ x, x ∈ P → x < 128) : scat z P (stirN (gather z P)) 16 = stirP P z := by
  have r := (RP.refl (P := P) g).stir hl hn hP
  have hy : ∀ y, y ∈ stirN (gather z P) → y < 2 ^ 64 := fun y hy => by
    have h2 : y ∈ gather (stirP P z) P := r.g.symm ▸ hy
    unfold gather at h2
    obtain ⟨p, _, e⟩ := List.mem_map.mp h2
    rw [← e]
    exact wd_getD r.wd p
  have hs : (stirN (gather z P)).length = P.length := by rw [stirN_len, g_len]
  have q := scat_rp (RP.refl (P := P) g) hn hP hy hs 16 (by omega)
  rw [List.take_of_length_le (by omega), List.drop_of_length_le (by rw [g_len]; omega), List.append_nil] at q
  exact q.uniq r
/-! ### the program's loops -/
theorem len11 {r : Env} (h : r.length = 11) : ∃ a b c d e f g i j k l, r = [a, b, c, d, e, f, g, i, j, k, l] := by
  match r, h with
  | [a, b, c, d, e, f, g, i, j, k, l], _ => exact ⟨a, b, c, d, e, f, g, i, j, k, l, rfl⟩
theorem cut_row {z : List Nat} {k : Nat} {i j : Int} (hl : z.length = 128) (hk : k + 16 ≤ 128) (hi : i = (k : Int)) (hj : j = ((k + 16 : Nat) : Int)) : cutX (vNats z) (some i) (some j) = vNats ((z.drop k).take 16) := by
  subst hi hj
  unfold cutX
  rw [nats_len, HT.sIx_nat, HT.sIx_nat, hl, Nat.min_eq_left (by omega), Nat.min_eq_left (by omega), show k + 16 - k = 16 by omega]
  show _ = List.map _ _
  rw [List.map_take, List.map_drop]
theorem row_turn {h : Heap} {z : List Nat} {k : Nat} (g : Wd 128 z) (hk : k + 16 ≤ 128) {v0 v1 v2 y5 y6 y7 y8 y9 y10 : Option RV} :
    ∃ z5 o, l_join_blocks_1 [v0, v1, v2, some (.own (vNats z)), some (.v (.int (k : Int))), y5, y6, y7, y8, y9, y10] h = .nx [v0, v1, v2, some (.own (vNats (rowN z k))), some (.v (.int (k : Int))), z5, y6, y7, y8, y9, y10] (h ++ [o]) := by
  have hw : Wd 16 ((z.drop k).take 16) := ⟨by rw [List.length_take, List.length_drop, g.1]; omega, fun x hx => g.2 x (List.mem_of_mem_drop (List.mem_of_mem_take hx))⟩
  have ec := cut_row (z := z) (i := (k : Int)) (j := (k : Int) + 16) g.1 hk rfl (by omega)
  have hget : (h ++ [HObj.lst (vNats ((z.drop k).take 16))])[h.length]? = some (.lst (vNats ((z.drop k).take 16))) := by
    rw [List.getElem?_append_right (Nat.le_refl _), Nat.sub_self]
    rfl
  have hst := (stir_ok hw hget).1
  have hs2 : (h ++ [HObj.lst (vNats ((z.drop k).take 16))]).set h.length (.lst (vNats (stirN ((z.drop k).take 16)))) = h ++ [HObj.lst (vNats (stirN ((z.drop k).take 16)))] := by
    rw [List.set_append_right _ _ (Nat.le_refl _), Nat.sub_self]
    rfl
  rw [hs2] at hst
  have hlen : (stirN ((z.drop k).take 16)).length = 16 := by rw [stirN_len]; exact hw.1
  have er : (vNats z).take k ++ vNats (stirN ((z.drop k).take 16)) ++ (vNats z).drop (k + 16) = vNats (rowN z k) := by
    unfold rowN
    show List.take k (List.map _ _) ++ List.map _ _ ++ List.drop (k + 16) (List.map _ _) = List.map _ _
    rw [List.map_append, List.map_append, List.map_take, List.map_drop]
  generalize stirN ((z.drop k).take 16) = us at *
  have hln : lookN (h ++ [HObj.lst (vNats us)]) (.v (.obj h.length)) = some (vNats us) := by
    show (match (h ++ [HObj.lst (vNats us)])[h.length]? with
      | some (.lst vs) => some vs
      | _ => none) = _
    rw [List.getElem?_append_right (Nat.le_refl _), Nat.sub_self]
    rfl
  have c1 : (0 : Int) ≤ (k : Int) := Int.natCast_nonneg k
  have c2 : (k : Int) ≤ (k : Int) + 16 := by omega
  have c3 : (k : Int) + 16 ≤ ((128 : Nat) : Int) := by omega
  have t2 : ((k : Int) + 16).toNat = k + 16 := by omega
  refine ⟨some (.v (.obj h.length)), .lst (vNats us), ?_⟩
  unfold l_join_blocks_1
  simp only [q_C, q_Var, q_evv, q_evo, q_evw, q_e1, q_e1k, q_e2, q_e2k, q_e2j, q_aNil, q_aCons, q_ack, q_acj, q_argv, q_argo, q_argw, q_keeps, q_keepsN, q_kpc, q_keepv, q_keepo, q_Tup, q_etk, q_etj, q_Lst, q_elk, q_elj, q_Call, q_If, q_ift, q_iff, q_tB, q_tbk, q_tTru, q_ttk, q_tAnd, q_takt, q_takf, q_tOr, q_tokt, q_tokf, q_tNot, q_tnk, q_tYes, q_And, q_ndk, q_ndt, q_ndf, q_Or, q_ork, q_ort, q_orf, q_Not, q_ntk, q_ntj, q_trN, q_trB, q_trI, q_trT, q_trR, q_trO, q_trW, q_Chain, q_chk, q_chj, q_chit, q_chif, q_sNil, q_sPass, q_sCons, q_sSet, q_ssv, q_sso, q_sOwn, q_sok, q_sHeap, q_shk, q_sFrz, q_sfj, q_sExpr, q_sxk, q_sRet, q_srv, q_sro, q_sRetOwn, q_roj, q_sRetN, q_sBreak, q_sCont, q_sIf, q_sift, q_siff, q_sApp, q_sapj, q_sapv, q_sapo, q_sExt, q_sexj, q_sexk, q_sexm, q_llo, q_llw, q_llr, q_sSetIx, q_sixv, q_sixo, q_sixj, q_sixl, q_sixm, q_sSetHp, q_hpv, q_hpo, q_hpj, q_hpl, q_hpm, q_hpn, q_sAugHp, q_agk, q_agj, q_agl, q_agm, q_agn, q_ago, q_agp, q_sUnp, q_unk, q_setc, q_setn, q_sPar2, q_p2v, q_p2o, q_p2jv, q_p2jo, q_sAug, q_auj, q_aul, q_aumv, q_aumo, q_sWhile, q_wht, q_whf, q_frk, q_forN, q_forC, q_flk, q_putN, q_putT, q_iok, q_ioj, q_svT, q_svR, q_svS, q_svO, q_seT, q_seR, q_seS, q_seO, q_seW, q_iView, q_ivw, q_ivv, q_iRng1, q_irk, q_Sl, q_slk1, q_slk2, q_slk3, q_ePN, q_ePS, q_epk, q_cutT, q_cutR, q_cutS, q_cutO, q_cutW, q_SlSt, q_stk1, q_stk2, q_stk3, q_revO, q_revR, q_revW, q_LR, q_lrk, q_lrj, q_iRng2, q_r2k, q_r2j, q_iRng3, q_r3k, q_r3j, q_r3i, q_sUnpL, q_ulk, q_ulj, q_lkO, q_lkR, q_lkW, q_lkT, q_sExtA, q_xaj, q_xak, q_xam, q_laO, q_laW, q_laR, q_laT, q_LR3, q_l3k, q_l3j, q_l3i, q_sSetSl, q_ssk2, q_ssj, q_ssl, q_ssm, q_ssn, opt_some, opt_none, EO.bind_ok, EO.bind_ex, EO.then_ok, EO.then_ex, SO.seq_nx, SO.seq_rt, SO.seq_bk, SO.seq_ct, SO.seq_ex, SO.turn_nx, SO.turn_ct, SO.turn_bk, SO.turn_rt, SO.turn_ex, add_ii, sub_ii, and_ii, or_ii, xor_ii, lt_ii, le_ii, gt_ii, ge_ii, max_ii, min_ii, neg_i, abs_i, int_i, eq_ii, ne_ii, len_tup, len_ro, len_own, len_view, list_tup, list_ro, list_scr, list_own, list_view, tuple_tup, tuple_ro, tuple_own, tuple_view, at0, at1, at2, at3, ix_tup, ix_ro, ix_own, ix_view, Option.map_some, line, List.getElem?_cons_zero, List.getElem?_cons_succ, List.getElem?_nil, List.set_cons_zero, List.set_cons_succ, List.set_nil, List.length_cons, List.length_nil, List.map_cons, List.map_nil, List.cons_append, List.nil_append, List.replicate, Bool.not_true, Bool.not_false, if_true, if_false, Bool.false_eq_true, reduceIte, Nat.reduceAdd, Nat.reduceSub, Nat.reduceLeDiff, Nat.reduceEqDiff, decide_true, decide_false, ec, hst, hln, nats_len, g.1, hlen, c1, c2, c3, t2, Int.toNat_natCast, er, and_self]
theorem rowN_wd {z : List Nat} {k : Nat} (g : Wd 128 z) (h : k + 16 ≤ 128) : Wd 128 (rowN z k) := by
  rw [row_rp g h]
  exact ((RP.refl (P := List.range' k 16) g).stir (by rw [List.length_range']) List.nodup_range' fun x hx => by
    have := List.mem_range'_1.mp hx
    omega).wd
def rowsK (z : List Nat) : Nat → List Nat
  | 0 => z
  | k + 1 => rowN (rowsK z k) (16 * k)
theorem step_at {lo c : Int} {n k : Nat} {v : Val} (h : (stepTo lo c n)[k]? = some v) : k < n ∧ v = .int (lo + (k : Nat) * c) := by
  have hk : k < n := by
    have := (List.getElem?_eq_some_iff.mp h).1
    rw [stepTo_len] at this
    exact this
  rw [stepTo_get c n lo k hk] at h
  exact ⟨hk, (Option.some.inj h).symm⟩
theorem row_loop {h : Heap} {z : List Nat} (g : Wd 128 z) {v0 v1 v2 y4 y5 y6 y7 y8 y9 y10 : Option RV} :
    ∃ z4 z5 news, sFor (.nm 4) (iRng3 (eC (.int 0)) (eC (.int 128)) (eC (.int 16))) l_join_blocks_1 [v0, v1, v2, some (.own (vNats z)), y4, y5, y6, y7, y8, y9, y10] h = .nx [v0, v1, v2, some (.own (vNats (rowsK z 8))), z4, z5, y6, y7, y8, y9, y10] (h ++ news) ∧ Wd 128 (rowsK z 8) := by
  have r0 : PySem.Builtin.Range.rangeSize 0 128 16 = 8 := by decide
  have m0 : PySem.Builtin.Range.small 0 128 16 = true := by decide
  have k1 : (16 : Int) ≠ 0 := by decide
  have k2 : (16 : Int).natAbs < 1073741824 := by decide
  have k3 : (0 : Int) ≤ 8 := by decide
  have k4 : (8 : Int).toNat = 8 := rfl
  obtain ⟨r2, h2, e, news, z4, z5, rfl, rfl, gw⟩ := for_ok (g := .nm 4) (it := iRng3 (eC (.int 0)) (eC (.int 128)) (eC (.int 16))) (b := l_join_blocks_1) (r := [v0, v1, v2, some (.own (vNats z)), y4, y5, y6, y7, y8, y9, y10]) (h := h) (h1 := h) (xs := stepTo 0 16 8)
    (fun k r h' => ∃ news z4 z5, h' = h ++ news ∧ r = [v0, v1, v2, some (.own (vNats (rowsK z k))), z4, z5, y6, y7, y8, y9, y10] ∧ Wd 128 (rowsK z k)) (by
      simp only [q_C, q_Var, q_evv, q_evo, q_evw, q_e1, q_e1k, q_e2, q_e2k, q_e2j, q_aNil, q_aCons, q_ack, q_acj, q_argv, q_argo, q_argw, q_keeps, q_keepsN, q_kpc, q_keepv, q_keepo, q_Tup, q_etk, q_etj, q_Lst, q_elk, q_elj, q_Call, q_If, q_ift, q_iff, q_tB, q_tbk, q_tTru, q_ttk, q_tAnd, q_takt, q_takf, q_tOr, q_tokt, q_tokf, q_tNot, q_tnk, q_tYes, q_And, q_ndk, q_ndt, q_ndf, q_Or, q_ork, q_ort, q_orf, q_Not, q_ntk, q_ntj, q_trN, q_trB, q_trI, q_trT, q_trR, q_trO, q_trW, q_Chain, q_chk, q_chj, q_chit, q_chif, q_sNil, q_sPass, q_sCons, q_sSet, q_ssv, q_sso, q_sOwn, q_sok, q_sHeap, q_shk, q_sFrz, q_sfj, q_sExpr, q_sxk, q_sRet, q_srv, q_sro, q_sRetOwn, q_roj, q_sRetN, q_sBreak, q_sCont, q_sIf, q_sift, q_siff, q_sApp, q_sapj, q_sapv, q_sapo, q_sExt, q_sexj, q_sexk, q_sexm, q_llo, q_llw, q_llr, q_sSetIx, q_sixv, q_sixo, q_sixj, q_sixl, q_sixm, q_sSetHp, q_hpv, q_hpo, q_hpj, q_hpl, q_hpm, q_hpn, q_sAugHp, q_agk, q_agj, q_agl, q_agm, q_agn, q_ago, q_agp, q_sUnp, q_unk, q_setc, q_setn, q_sPar2, q_p2v, q_p2o, q_p2jv, q_p2jo, q_sAug, q_auj, q_aul, q_aumv, q_aumo, q_sWhile, q_wht, q_whf, q_frk, q_forN, q_forC, q_flk, q_putN, q_putT, q_iok, q_ioj, q_svT, q_svR, q_svS, q_svO, q_seT, q_seR, q_seS, q_seO, q_seW, q_iView, q_ivw, q_ivv, q_iRng1, q_irk, q_Sl, q_slk1, q_slk2, q_slk3, q_ePN, q_ePS, q_epk, q_cutT, q_cutR, q_cutS, q_cutO, q_cutW, q_SlSt, q_stk1, q_stk2, q_stk3, q_revO, q_revR, q_revW, q_LR, q_lrk, q_lrj, q_iRng2, q_r2k, q_r2j, q_iRng3, q_r3k, q_r3j, q_r3i, q_sUnpL, q_ulk, q_ulj, q_lkO, q_lkR, q_lkW, q_lkT, q_sExtA, q_xaj, q_xak, q_xam, q_laO, q_laW, q_laR, q_laT, q_LR3, q_l3k, q_l3j, q_l3i, q_sSetSl, q_ssk2, q_ssj, q_ssl, q_ssm, q_ssn, opt_some, opt_none, EO.bind_ok, EO.bind_ex, EO.then_ok, EO.then_ex, SO.seq_nx, SO.seq_rt, SO.seq_bk, SO.seq_ct, SO.seq_ex, SO.turn_nx, SO.turn_ct, SO.turn_bk, SO.turn_rt, SO.turn_ex, add_ii, sub_ii, and_ii, or_ii, xor_ii, lt_ii, le_ii, gt_ii, ge_ii, max_ii, min_ii, neg_i, abs_i, int_i, eq_ii, ne_ii, len_tup, len_ro, len_own, len_view, list_tup, list_ro, list_scr, list_own, list_view, tuple_tup, tuple_ro, tuple_own, tuple_view, at0, at1, at2, at3, ix_tup, ix_ro, ix_own, ix_view, Option.map_some, line, List.getElem?_cons_zero, List.getElem?_cons_succ, List.getElem?_nil, List.set_cons_zero, List.set_cons_succ, List.set_nil, List.length_cons, List.length_nil, List.map_cons, List.map_nil, List.cons_append, List.nil_append, List.replicate, Bool.not_true, Bool.not_false, if_true, if_false, Bool.false_eq_true, reduceIte, Nat.reduceAdd, Nat.reduceSub, Nat.reduceLeDiff, Nat.reduceEqDiff, decide_true, decide_false, r0, m0, k1, k2, k3, k4, ne_eq, not_false_eq_true, and_self]) ⟨[], _, _, (List.append_nil h).symm, rfl, g⟩ fun k v r h' hk ⟨news, z4, z5, e1, e2, gk⟩ => by
      subst e1 e2
      obtain ⟨hk8, rfl⟩ := step_at hk
      have ek : (0 : Int) + (k : Int) * 16 = ((16 * k : Nat) : Int) := by omega
      rw [ek]
      obtain ⟨z5', o, et⟩ := row_turn (h := h ++ news) (k := 16 * k) gk (by omega) (v0 := v0) (v1 := v1) (v2 := v2) (y5 := z5) (y6 := y6) (y7 := y7) (y8 := y8) (y9 := y9) (y10 := y10)
      exact ⟨_, rfl, _, _, .inl et, news ++ [o], some (.v (.int ((16 * k : Nat) : Int))), z5', by rw [List.append_assoc], rfl, rowN_wd gk (by omega)⟩
  exact ⟨z4, z5, news, e, gw⟩
def pl (k : Nat) : Nat → List Nat
  | 0 => []
  | j + 1 => pl k j ++ [k + 16 * j, k + 16 * j + 1]
theorem pl_len (k : Nat) : ∀ j, (pl k j).length = 2 * j
  | 0 => rfl
  | j + 1 => by
    show (pl k j ++ [k + 16 * j, k + 16 * j + 1]).length = _
    rw [List.length_append, pl_len k j]
    show 2 * j + 2 = 2 * (j + 1)
    omega
theorem places_loop {h : Heap} {k : Nat} (hk : k < 16) {v0 v1 v2 v3 v5 y7 y8 y9 y10 : Option RV} :
    ∃ z7, sFor (.nm 7) (iRng3 (eVar 4) (eC (.int 128)) (eC (.int 16))) l_join_blocks_2 [v0, v1, v2, v3, some (.v (.int (k : Int))), v5, some (.own []), y7, y8, y9, y10] h = .nx [v0, v1, v2, v3, some (.v (.int (k : Int))), v5, some (.own (vNats (pl k 8))), z7, y8, y9, y10] h := by
  have r0 : PySem.Builtin.Range.rangeSize (k : Int) 128 16 = 8 := by
    unfold PySem.Builtin.Range.rangeSize
    rw [if_pos (by decide), if_pos (by omega)]
    omega
  have fits : ∀ i : Int, -(2 ^ 62) ≤ i → i < 2 ^ 62 → PySem.Builtin.Range.rangeFitsLong i = true := fun i h1 h2 => by
    unfold PySem.Builtin.Range.rangeFitsLong
    rw [Bool.and_eq_true, decide_eq_true_eq, decide_eq_true_eq]
    omega
  have m0 : PySem.Builtin.Range.small (k : Int) 128 16 = true := by
    unfold PySem.Builtin.Range.small
    rw [r0]
    have f1 := fits (k : Int) (by omega) (by omega)
    have f2 := fits 128 (by decide) (by decide)
    have f3 := fits 16 (by decide) (by decide)
    have f4 := fits 8 (by decide) (by decide)
    have f5 := fits (128 + (16 - 1)) (by decide) (by decide)
    have f6 : (16 : Int) > 0 := by decide
    simp only [f1, f2, f3, f4, f5, if_pos f6, Bool.and_self, Bool.or_true]
  have k1 : (16 : Int) ≠ 0 := by decide
  have k2 : (16 : Int).natAbs < 1073741824 := by decide
  have k3 : (0 : Int) ≤ 8 := by decide
  have k4 : (8 : Int).toNat = 8 := rfl
  obtain ⟨r2, h2, e, p⟩ := for_ok (g := .nm 7) (it := iRng3 (eVar 4) (eC (.int 128)) (eC (.int 16))) (b := l_join_blocks_2) (r := [v0, v1, v2, v3, some (.v (.int (k : Int))), v5, some (.own []), y7, y8, y9, y10]) (h := h) (h1 := h) (xs := stepTo (k : Int) 16 8)
    (fun j r h' => h' = h ∧ ∃ z7, r = [v0, v1, v2, v3, some (.v (.int (k : Int))), v5, some (.own (vNats (pl k j))), z7, y8, y9, y10]) (by
      simp only [q_C, q_Var, q_evv, q_evo, q_evw, q_e1, q_e1k, q_e2, q_e2k, q_e2j, q_aNil, q_aCons, q_ack, q_acj, q_argv, q_argo, q_argw, q_keeps, q_keepsN, q_kpc, q_keepv, q_keepo, q_Tup, q_etk, q_etj, q_Lst, q_elk, q_elj, q_Call, q_If, q_ift, q_iff, q_tB, q_tbk, q_tTru, q_ttk, q_tAnd, q_takt, q_takf, q_tOr, q_tokt, q_tokf, q_tNot, q_tnk, q_tYes, q_And, q_ndk, q_ndt, q_ndf, q_Or, q_ork, q_ort, q_orf, q_Not, q_ntk, q_ntj, q_trN, q_trB, q_trI, q_trT, q_trR, q_trO, q_trW, q_Chain, q_chk, q_chj, q_chit, q_chif, q_sNil, q_sPass, q_sCons, q_sSet, q_ssv, q_sso, q_sOwn, q_sok, q_sHeap, q_shk, q_sFrz, q_sfj, q_sExpr, q_sxk, q_sRet, q_srv, q_sro, q_sRetOwn, q_roj, q_sRetN, q_sBreak, q_sCont, q_sIf, q_sift, q_siff, q_sApp, q_sapj, q_sapv, q_sapo, q_sExt, q_sexj, q_sexk, q_sexm, q_llo, q_llw, q_llr, q_sSetIx, q_sixv, q_sixo, q_sixj, q_sixl, q_sixm, q_sSetHp, q_hpv, q_hpo, q_hpj, q_hpl, q_hpm, q_hpn, q_sAugHp, q_agk, q_agj, q_agl, q_agm, q_agn, q_ago, q_agp, q_sUnp, q_unk, q_setc, q_setn, q_sPar2, q_p2v, q_p2o, q_p2jv, q_p2jo, q_sAug, q_auj, q_aul, q_aumv, q_aumo, q_sWhile, q_wht, q_whf, q_frk, q_forN, q_forC, q_flk, q_putN, q_putT, q_iok, q_ioj, q_svT, q_svR, q_svS, q_svO, q_seT, q_seR, q_seS, q_seO, q_seW, q_iView, q_ivw, q_ivv, q_iRng1, q_irk, q_Sl, q_slk1, q_slk2, q_slk3, q_ePN, q_ePS, q_epk, q_cutT, q_cutR, q_cutS, q_cutO, q_cutW, q_SlSt, q_stk1, q_stk2, q_stk3, q_revO, q_revR, q_revW, q_LR, q_lrk, q_lrj, q_iRng2, q_r2k, q_r2j, q_iRng3, q_r3k, q_r3j, q_r3i, q_sUnpL, q_ulk, q_ulj, q_lkO, q_lkR, q_lkW, q_lkT, q_sExtA, q_xaj, q_xak, q_xam, q_laO, q_laW, q_laR, q_laT, q_LR3, q_l3k, q_l3j, q_l3i, q_sSetSl, q_ssk2, q_ssj, q_ssl, q_ssm, q_ssn, opt_some, opt_none, EO.bind_ok, EO.bind_ex, EO.then_ok, EO.then_ex, SO.seq_nx, SO.seq_rt, SO.seq_bk, SO.seq_ct, SO.seq_ex, SO.turn_nx, SO.turn_ct, SO.turn_bk, SO.turn_rt, SO.turn_ex, add_ii, sub_ii, and_ii, or_ii, xor_ii, lt_ii, le_ii, gt_ii, ge_ii, max_ii, min_ii, neg_i, abs_i, int_i, eq_ii, ne_ii, len_tup, len_ro, len_own, len_view, list_tup, list_ro, list_scr, list_own, list_view, tuple_tup, tuple_ro, tuple_own, tuple_view, at0, at1, at2, at3, ix_tup, ix_ro, ix_own, ix_view, Option.map_some, line, List.getElem?_cons_zero, List.getElem?_cons_succ, List.getElem?_nil, List.set_cons_zero, List.set_cons_succ, List.set_nil, List.length_cons, List.length_nil, List.map_cons, List.map_nil, List.cons_append, List.nil_append, List.replicate, Bool.not_true, Bool.not_false, if_true, if_false, Bool.false_eq_true, reduceIte, Nat.reduceAdd, Nat.reduceSub, Nat.reduceLeDiff, Nat.reduceEqDiff, decide_true, decide_false, r0, m0, k1, k2, k3, k4, ne_eq, not_false_eq_true, and_self]) ⟨rfl, _, rfl⟩ fun j v r h' hj ⟨e1, z7, e2⟩ => by
      subst e1 e2
      obtain ⟨hj8, rfl⟩ := step_at hj
      have ek : (k : Int) + (j : Int) * 16 = ((k + 16 * j : Nat) : Int) := by omega
      have ek1 : ((k + 16 * j : Nat) : Int) + 1 = ((k + 16 * j + 1 : Nat) : Int) := by omega
      have hz : 2 * j + 2 ≤ 16777216 := by omega
      have ep : vNats (pl k j) ++ [Val.int ((k + 16 * j : Nat) : Int), .int ((k + 16 * j + 1 : Nat) : Int)] = vNats (pl k (j + 1)) := by
        show List.map _ _ ++ _ = List.map _ (pl k j ++ [k + 16 * j, k + 16 * j + 1])
        rw [List.map_append]
        rfl
      rw [ek]
      refine ⟨_, rfl, _, _, .inl ?_, rfl, some (.v (.int ((k + 16 * j : Nat) : Int))), rfl⟩
      unfold l_join_blocks_2
      simp only [q_C, q_Var, q_evv, q_evo, q_evw, q_e1, q_e1k, q_e2, q_e2k, q_e2j, q_aNil, q_aCons, q_ack, q_acj, q_argv, q_argo, q_argw, q_keeps, q_keepsN, q_kpc, q_keepv, q_keepo, q_Tup, q_etk, q_etj, q_Lst, q_elk, q_elj, q_Call, q_If, q_ift, q_iff, q_tB, q_tbk, q_tTru, q_ttk, q_tAnd, q_takt, q_takf, q_tOr, q_tokt, q_tokf, q_tNot, q_tnk, q_tYes, q_And, q_ndk, q_ndt, q_ndf, q_Or, q_ork, q_ort, q_orf, q_Not, q_ntk, q_ntj, q_trN, q_trB, q_trI, q_trT, q_trR, q_trO, q_trW, q_Chain, q_chk, q_chj, q_chit, q_chif, q_sNil, q_sPass, q_sCons, q_sSet, q_ssv, q_sso, q_sOwn, q_sok, q_sHeap, q_shk, q_sFrz, q_sfj, q_sExpr, q_sxk, q_sRet, q_srv, q_sro, q_sRetOwn, q_roj, q_sRetN, q_sBreak, q_sCont, q_sIf, q_sift, q_siff, q_sApp, q_sapj, q_sapv, q_sapo, q_sExt, q_sexj, q_sexk, q_sexm, q_llo, q_llw, q_llr, q_sSetIx, q_sixv, q_sixo, q_sixj, q_sixl, q_sixm, q_sSetHp, q_hpv, q_hpo, q_hpj, q_hpl, q_hpm, q_hpn, q_sAugHp, q_agk, q_agj, q_agl, q_agm, q_agn, q_ago, q_agp, q_sUnp, q_unk, q_setc, q_setn, q_sPar2, q_p2v, q_p2o, q_p2jv, q_p2jo, q_sAug, q_auj, q_aul, q_aumv, q_aumo, q_sWhile, q_wht, q_whf, q_frk, q_forN, q_forC, q_flk, q_putN, q_putT, q_iok, q_ioj, q_svT, q_svR, q_svS, q_svO, q_seT, q_seR, q_seS, q_seO, q_seW, q_iView, q_ivw, q_ivv, q_iRng1, q_irk, q_Sl, q_slk1, q_slk2, q_slk3, q_ePN, q_ePS, q_epk, q_cutT, q_cutR, q_cutS, q_cutO, q_cutW, q_SlSt, q_stk1, q_stk2, q_stk3, q_revO, q_revR, q_revW, q_LR, q_lrk, q_lrj, q_iRng2, q_r2k, q_r2j, q_iRng3, q_r3k, q_r3j, q_r3i, q_sUnpL, q_ulk, q_ulj, q_lkO, q_lkR, q_lkW, q_lkT, q_sExtA, q_xaj, q_xak, q_xam, q_laO, q_laW, q_laR, q_laT, q_LR3, q_l3k, q_l3j, q_l3i, q_sSetSl, q_ssk2, q_ssj, q_ssl, q_ssm, q_ssn, opt_some, opt_none, EO.bind_ok, EO.bind_ex, EO.then_ok, EO.then_ex, SO.seq_nx, SO.seq_rt, SO.seq_bk, SO.seq_ct, SO.seq_ex, SO.turn_nx, SO.turn_ct, SO.turn_bk, SO.turn_rt, SO.turn_ex, add_ii, sub_ii, and_ii, or_ii, xor_ii, lt_ii, le_ii, gt_ii, ge_ii, max_ii, min_ii, neg_i, abs_i, int_i, eq_ii, ne_ii, len_tup, len_ro, len_own, len_view, list_tup, list_ro, list_scr, list_own, list_view, tuple_tup, tuple_ro, tuple_own, tuple_view, at0, at1, at2, at3, ix_tup, ix_ro, ix_own, ix_view, Option.map_some, line, List.getElem?_cons_zero, List.getElem?_cons_succ, List.getElem?_nil, List.set_cons_zero, List.set_cons_succ, List.set_nil, List.length_cons, List.length_nil, List.map_cons, List.map_nil, List.cons_append, List.nil_append, List.replicate, Bool.not_true, Bool.not_false, if_true, if_false, Bool.false_eq_true, reduceIte, Nat.reduceAdd, Nat.reduceSub, Nat.reduceLeDiff, Nat.reduceEqDiff, decide_true, decide_false, ek1, nats_len, pl_len, hz, ep]
  obtain ⟨rfl, z7, rfl⟩ := p
  exact ⟨_, e⟩
def fG (z : List Nat) (v : Val) : Val := match v with
  | .int k => .int (z.getD k.toNat 0 : Nat)
  | _ => .none
theorem fG_map (z P : List Nat) : (vNats P).map (fG z) = vNats (gather z P) := by
  show List.map _ (List.map _ _) = List.map _ (List.map _ _)
  rw [List.map_map, List.map_map]
  rfl
theorem zip_loop {h : Heap} {z P ys : List Nat} {n : Nat} (g : Wd 128 z) (hP : ∀ x, x ∈ P → x < 128) (hl : P.length = 16) (hy : ys.length = 16) (hn : h[n]? = some (.lst (vNats ys))) {v0 v1 v2 v4 v5 v7 y9 y10 : Option RV} :
    ∃ z9 z10, sFor (.tp [9, 10]) (iZip seqV (eVar 6) (eVar 8)) l_join_blocks_4 [v0, v1, v2, some (.own (vNats z)), v4, v5, some (.v (.ro (vNats P))), v7, some (.v (.obj n)), y9, y10] h =
      .nx [v0, v1, v2, some (.own (vNats (scat z P ys 16))), v4, v5, some (.v (.ro (vNats P))), v7, some (.v (.obj n)), z9, z10] h := by
  have es : seqV h (.v (.obj n)) = some (false, vNats ys, [n]) := by
    show (match h[n]? with
      | some (.lst xs) => some (false, xs, [n])
      | _ => none) = _
    rw [hn]
  have ez : iZip seqV (eVar 6) (eVar 8) [v0, v1, v2, some (.own (vNats z)), v4, v5, some (.v (.ro (vNats P))), v7, some (.v (.obj n)), y9, y10] h = .ok (pairs (vNats P) (vNats ys), [] ++ [n]) h := by
    unfold iZip
    simp only [q_C, q_Var, q_evv, q_evo, q_evw, q_e1, q_e1k, q_e2, q_e2k, q_e2j, q_aNil, q_aCons, q_ack, q_acj, q_argv, q_argo, q_argw, q_keeps, q_keepsN, q_kpc, q_keepv, q_keepo, q_Tup, q_etk, q_etj, q_Lst, q_elk, q_elj, q_Call, q_If, q_ift, q_iff, q_tB, q_tbk, q_tTru, q_ttk, q_tAnd, q_takt, q_takf, q_tOr, q_tokt, q_tokf, q_tNot, q_tnk, q_tYes, q_And, q_ndk, q_ndt, q_ndf, q_Or, q_ork, q_ort, q_orf, q_Not, q_ntk, q_ntj, q_trN, q_trB, q_trI, q_trT, q_trR, q_trO, q_trW, q_Chain, q_chk, q_chj, q_chit, q_chif, q_sNil, q_sPass, q_sCons, q_sSet, q_ssv, q_sso, q_sOwn, q_sok, q_sHeap, q_shk, q_sFrz, q_sfj, q_sExpr, q_sxk, q_sRet, q_srv, q_sro, q_sRetOwn, q_roj, q_sRetN, q_sBreak, q_sCont, q_sIf, q_sift, q_siff, q_sApp, q_sapj, q_sapv, q_sapo, q_sExt, q_sexj, q_sexk, q_sexm, q_llo, q_llw, q_llr, q_sSetIx, q_sixv, q_sixo, q_sixj, q_sixl, q_sixm, q_sSetHp, q_hpv, q_hpo, q_hpj, q_hpl, q_hpm, q_hpn, q_sAugHp, q_agk, q_agj, q_agl, q_agm, q_agn, q_ago, q_agp, q_sUnp, q_unk, q_setc, q_setn, q_sPar2, q_p2v, q_p2o, q_p2jv, q_p2jo, q_sAug, q_auj, q_aul, q_aumv, q_aumo, q_sWhile, q_wht, q_whf, q_frk, q_forN, q_forC, q_flk, q_putN, q_putT, q_iok, q_ioj, q_svT, q_svR, q_svS, q_svO, q_seT, q_seR, q_seS, q_seO, q_seW, q_iView, q_ivw, q_ivv, q_iRng1, q_irk, q_Sl, q_slk1, q_slk2, q_slk3, q_ePN, q_ePS, q_epk, q_cutT, q_cutR, q_cutS, q_cutO, q_cutW, q_SlSt, q_stk1, q_stk2, q_stk3, q_revO, q_revR, q_revW, q_LR, q_lrk, q_lrj, q_iRng2, q_r2k, q_r2j, q_iRng3, q_r3k, q_r3j, q_r3i, q_sUnpL, q_ulk, q_ulj, q_lkO, q_lkR, q_lkW, q_lkT, q_sExtA, q_xaj, q_xak, q_xam, q_laO, q_laW, q_laR, q_laT, q_LR3, q_l3k, q_l3j, q_l3i, q_sSetSl, q_ssk2, q_ssj, q_ssl, q_ssm, q_ssn, opt_some, opt_none, EO.bind_ok, EO.bind_ex, EO.then_ok, EO.then_ex, SO.seq_nx, SO.seq_rt, SO.seq_bk, SO.seq_ct, SO.seq_ex, SO.turn_nx, SO.turn_ct, SO.turn_bk, SO.turn_rt, SO.turn_ex, add_ii, sub_ii, and_ii, or_ii, xor_ii, lt_ii, le_ii, gt_ii, ge_ii, max_ii, min_ii, neg_i, abs_i, int_i, eq_ii, ne_ii, len_tup, len_ro, len_own, len_view, list_tup, list_ro, list_scr, list_own, list_view, tuple_tup, tuple_ro, tuple_own, tuple_view, at0, at1, at2, at3, ix_tup, ix_ro, ix_own, ix_view, Option.map_some, line, List.getElem?_cons_zero, List.getElem?_cons_succ, List.getElem?_nil, List.set_cons_zero, List.set_cons_succ, List.set_nil, List.length_cons, List.length_nil, List.map_cons, List.map_nil, List.cons_append, List.nil_append, List.replicate, Bool.not_true, Bool.not_false, if_true, if_false, Bool.false_eq_true, reduceIte, Nat.reduceAdd, Nat.reduceSub, Nat.reduceLeDiff, Nat.reduceEqDiff, decide_true, decide_false, es]
  have hsc : ∀ j, (scat z P ys j).length = 128 := fun j => by
    induction j with
    | zero => exact g.1
    | succ j ih =>
      show ((scat z P ys j).set _ _).length = 128
      rw [List.length_set]
      exact ih
  have hpl : (pairs (vNats P) (vNats ys)).length = 16 := by rw [pairs_len, nats_len, nats_len, hl, hy]; rfl
  obtain ⟨r2, h2, e, p⟩ := forL_ok (g := .tp [9, 10]) (b := l_join_blocks_4) (dep := [] ++ [n]) (h0 := h) (P := fun k r h' => h' = h ∧ ∃ z9 z10, r = [v0, v1, v2, some (.own (vNats (scat z P ys k))), v4, v5, some (.v (.ro (vNats P))), v7, some (.v (.obj n)), z9, z10])
    (fun i r h' q => by rw [q.1]; exact Same.refl _ _) (pairs (vNats P) (vNats ys)) 0 [v0, v1, v2, some (.own (vNats z)), v4, v5, some (.v (.ro (vNats P))), v7, some (.v (.obj n)), y9, y10] h ⟨rfl, _, _, rfl⟩ fun k x r h' hk ⟨q1, z9, z10, q2⟩ => by
      subst q1 q2
      rw [Nat.zero_add] at *
      have hk16 : k < 16 := by
        have := (List.getElem?_eq_some_iff.mp hk).1
        omega
      have ep := pairs_get (vNats P) (vNats ys) k _ _ (nats_get (ns := P) (by omega)) (nats_get (ns := ys) (by omega))
      rw [ep] at hk
      cases hk
      have i1 : L2.ixN 128 ((P[k]'(by omega) : Nat) : Int) = some (P[k]'(by omega)) := ixN_nat (hP _ (List.getElem_mem _))
      have ed : scat z P ys (k + 1) = (scat z P ys k).set (P[k]'(by omega)) (ys[k]'(by omega)) := by
        show (scat z P ys k).set (P.getD k 0) (ys.getD k 0) = _
        rw [p_getD (by omega), p_getD (by omega)]
      refine ⟨_, rfl, _, _, .inl ?_, rfl, some (.v (.int ((P[k]'(by omega) : Nat) : Int))), some (.v (.int ((ys[k]'(by omega) : Nat) : Int))), rfl⟩
      rw [ed]
      unfold l_join_blocks_4
      simp only [q_C, q_Var, q_evv, q_evo, q_evw, q_e1, q_e1k, q_e2, q_e2k, q_e2j, q_aNil, q_aCons, q_ack, q_acj, q_argv, q_argo, q_argw, q_keeps, q_keepsN, q_kpc, q_keepv, q_keepo, q_Tup, q_etk, q_etj, q_Lst, q_elk, q_elj, q_Call, q_If, q_ift, q_iff, q_tB, q_tbk, q_tTru, q_ttk, q_tAnd, q_takt, q_takf, q_tOr, q_tokt, q_tokf, q_tNot, q_tnk, q_tYes, q_And, q_ndk, q_ndt, q_ndf, q_Or, q_ork, q_ort, q_orf, q_Not, q_ntk, q_ntj, q_trN, q_trB, q_trI, q_trT, q_trR, q_trO, q_trW, q_Chain, q_chk, q_chj, q_chit, q_chif, q_sNil, q_sPass, q_sCons, q_sSet, q_ssv, q_sso, q_sOwn, q_sok, q_sHeap, q_shk, q_sFrz, q_sfj, q_sExpr, q_sxk, q_sRet, q_srv, q_sro, q_sRetOwn, q_roj, q_sRetN, q_sBreak, q_sCont, q_sIf, q_sift, q_siff, q_sApp, q_sapj, q_sapv, q_sapo, q_sExt, q_sexj, q_sexk, q_sexm, q_llo, q_llw, q_llr, q_sSetIx, q_sixv, q_sixo, q_sixj, q_sixl, q_sixm, q_sSetHp, q_hpv, q_hpo, q_hpj, q_hpl, q_hpm, q_hpn, q_sAugHp, q_agk, q_agj, q_agl, q_agm, q_agn, q_ago, q_agp, q_sUnp, q_unk, q_setc, q_setn, q_sPar2, q_p2v, q_p2o, q_p2jv, q_p2jo, q_sAug, q_auj, q_aul, q_aumv, q_aumo, q_sWhile, q_wht, q_whf, q_frk, q_forN, q_forC, q_flk, q_putN, q_putT, q_iok, q_ioj, q_svT, q_svR, q_svS, q_svO, q_seT, q_seR, q_seS, q_seO, q_seW, q_iView, q_ivw, q_ivv, q_iRng1, q_irk, q_Sl, q_slk1, q_slk2, q_slk3, q_ePN, q_ePS, q_epk, q_cutT, q_cutR, q_cutS, q_cutO, q_cutW, q_SlSt, q_stk1, q_stk2, q_stk3, q_revO, q_revR, q_revW, q_LR, q_lrk, q_lrj, q_iRng2, q_r2k, q_r2j, q_iRng3, q_r3k, q_r3j, q_r3i, q_sUnpL, q_ulk, q_ulj, q_lkO, q_lkR, q_lkW, q_lkT, q_sExtA, q_xaj, q_xak, q_xam, q_laO, q_laW, q_laR, q_laT, q_LR3, q_l3k, q_l3j, q_l3i, q_sSetSl, q_ssk2, q_ssj, q_ssl, q_ssm, q_ssn, opt_some, opt_none, EO.bind_ok, EO.bind_ex, EO.then_ok, EO.then_ex, SO.seq_nx, SO.seq_rt, SO.seq_bk, SO.seq_ct, SO.seq_ex, SO.turn_nx, SO.turn_ct, SO.turn_bk, SO.turn_rt, SO.turn_ex, add_ii, sub_ii, and_ii, or_ii, xor_ii, lt_ii, le_ii, gt_ii, ge_ii, max_ii, min_ii, neg_i, abs_i, int_i, eq_ii, ne_ii, len_tup, len_ro, len_own, len_view, list_tup, list_ro, list_scr, list_own, list_view, tuple_tup, tuple_ro, tuple_own, tuple_view, at0, at1, at2, at3, ix_tup, ix_ro, ix_own, ix_view, Option.map_some, line, List.getElem?_cons_zero, List.getElem?_cons_succ, List.getElem?_nil, List.set_cons_zero, List.set_cons_succ, List.set_nil, List.length_cons, List.length_nil, List.map_cons, List.map_nil, List.cons_append, List.nil_append, List.replicate, Bool.not_true, Bool.not_false, if_true, if_false, Bool.false_eq_true, reduceIte, Nat.reduceAdd, Nat.reduceSub, Nat.reduceLeDiff, Nat.reduceEqDiff, decide_true, decide_false, nats_len, hsc, i1, nats_set]
  obtain ⟨rfl, z9, z10, rfl⟩ := p
  rw [hpl] at e
  refine ⟨z9, z10, ?_⟩
  rw [q_sFor, ez, EO.then_ok, q_frk]
  exact e
def colN (z : List Nat) (k : Nat) : List Nat := scat z (pl k 8) (stirN (gather z (pl k 8))) 16
theorem pl_ok {k : Nat} (h : ∃ j, j < 8 ∧ k = 2 * j) : (pl k 8).Nodup ∧ ∀ x, x ∈ pl k 8 → x < 128 := by
  obtain ⟨j, hj, rfl⟩ := h
  have : j = 0 ∨ j = 1 ∨ j = 2 ∨ j = 3 ∨ j = 4 ∨ j = 5 ∨ j = 6 ∨ j = 7 := by omega
  rcases this with h | h | h | h | h | h | h | h <;> subst h <;> decide
theorem colN_eq {z : List Nat} {k : Nat} (g : Wd 128 z) (h : ∃ j, j < 8 ∧ k = 2 * j) : colN z k = stirP (pl k 8) z := col_rp g (pl_len k 8) (pl_ok h).1 (pl_ok h).2
theorem colN_wd {z : List Nat} {k : Nat} (g : Wd 128 z) (h : ∃ j, j < 8 ∧ k = 2 * j) : Wd 128 (colN z k) := by
  rw [colN_eq g h]
  exact ((RP.refl (P := pl k 8) g).stir (pl_len k 8) (pl_ok h).1 (pl_ok h).2).wd
theorem col_turn {h : Heap} {z : List Nat} {k : Nat} (g : Wd 128 z) (hk : ∃ j, j < 8 ∧ k = 2 * j) {v0 v1 v2 y5 y6 y7 y8 y9 y10 : Option RV} :
    ∃ z6 z7 z8 z9 z10 o, l_join_blocks_5 [v0, v1, v2, some (.own (vNats z)), some (.v (.int (k : Int))), y5, y6, y7, y8, y9, y10] h = .nx [v0, v1, v2, some (.own (vNats (colN z k))), some (.v (.int (k : Int))), y5, z6, z7, z8, z9, z10] (h ++ [o]) := by
  have hk16 : k < 16 := by
    obtain ⟨j, hj, rfl⟩ := hk
    omega
  obtain ⟨hnd, hlt⟩ := pl_ok hk
  have hpl := pl_len k 8
  obtain ⟨z7, el⟩ := places_loop (h := h) hk16 (v0 := v0) (v1 := v1) (v2 := v2) (v3 := some (.own (vNats z))) (v5 := y5) (y7 := y7) (y8 := y8) (y9 := y9) (y10 := y10)
  have ec : eLc [9] (.nm 9) (iSeqE (eVar 6)) tYes c_join_blocks_3 [v0, v1, v2, some (.own (vNats z)), some (.v (.int (k : Int))), y5, some (.own (vNats (pl k 8))), z7, y8, y9, y10] h = .ok (.own ((vNats (pl k 8)).map (fG z))) h :=
    lc_map (fG z) (dep := []) (by simp only [q_C, q_Var, q_evv, q_evo, q_evw, q_e1, q_e1k, q_e2, q_e2k, q_e2j, q_aNil, q_aCons, q_ack, q_acj, q_argv, q_argo, q_argw, q_keeps, q_keepsN, q_kpc, q_keepv, q_keepo, q_Tup, q_etk, q_etj, q_Lst, q_elk, q_elj, q_Call, q_If, q_ift, q_iff, q_tB, q_tbk, q_tTru, q_ttk, q_tAnd, q_takt, q_takf, q_tOr, q_tokt, q_tokf, q_tNot, q_tnk, q_tYes, q_And, q_ndk, q_ndt, q_ndf, q_Or, q_ork, q_ort, q_orf, q_Not, q_ntk, q_ntj, q_trN, q_trB, q_trI, q_trT, q_trR, q_trO, q_trW, q_Chain, q_chk, q_chj, q_chit, q_chif, q_sNil, q_sPass, q_sCons, q_sSet, q_ssv, q_sso, q_sOwn, q_sok, q_sHeap, q_shk, q_sFrz, q_sfj, q_sExpr, q_sxk, q_sRet, q_srv, q_sro, q_sRetOwn, q_roj, q_sRetN, q_sBreak, q_sCont, q_sIf, q_sift, q_siff, q_sApp, q_sapj, q_sapv, q_sapo, q_sExt, q_sexj, q_sexk, q_sexm, q_llo, q_llw, q_llr, q_sSetIx, q_sixv, q_sixo, q_sixj, q_sixl, q_sixm, q_sSetHp, q_hpv, q_hpo, q_hpj, q_hpl, q_hpm, q_hpn, q_sAugHp, q_agk, q_agj, q_agl, q_agm, q_agn, q_ago, q_agp, q_sUnp, q_unk, q_setc, q_setn, q_sPar2, q_p2v, q_p2o, q_p2jv, q_p2jo, q_sAug, q_auj, q_aul, q_aumv, q_aumo, q_sWhile, q_wht, q_whf, q_frk, q_forN, q_forC, q_flk, q_putN, q_putT, q_iok, q_ioj, q_svT, q_svR, q_svS, q_svO, q_seT, q_seR, q_seS, q_seO, q_seW, q_iView, q_ivw, q_ivv, q_iRng1, q_irk, q_Sl, q_slk1, q_slk2, q_slk3, q_ePN, q_ePS, q_epk, q_cutT, q_cutR, q_cutS, q_cutO, q_cutW, q_SlSt, q_stk1, q_stk2, q_stk3, q_revO, q_revR, q_revW, q_LR, q_lrk, q_lrj, q_iRng2, q_r2k, q_r2j, q_iRng3, q_r3k, q_r3j, q_r3i, q_sUnpL, q_ulk, q_ulj, q_lkO, q_lkR, q_lkW, q_lkT, q_sExtA, q_xaj, q_xak, q_xam, q_laO, q_laW, q_laR, q_laT, q_LR3, q_l3k, q_l3j, q_l3i, q_sSetSl, q_ssk2, q_ssj, q_ssl, q_ssm, q_ssn, opt_some, opt_none, EO.bind_ok, EO.bind_ex, EO.then_ok, EO.then_ex, SO.seq_nx, SO.seq_rt, SO.seq_bk, SO.seq_ct, SO.seq_ex, SO.turn_nx, SO.turn_ct, SO.turn_bk, SO.turn_rt, SO.turn_ex, add_ii, sub_ii, and_ii, or_ii, xor_ii, lt_ii, le_ii, gt_ii, ge_ii, max_ii, min_ii, neg_i, abs_i, int_i, eq_ii, ne_ii, len_tup, len_ro, len_own, len_view, list_tup, list_ro, list_scr, list_own, list_view, tuple_tup, tuple_ro, tuple_own, tuple_view, at0, at1, at2, at3, ix_tup, ix_ro, ix_own, ix_view, Option.map_some, line, List.getElem?_cons_zero, List.getElem?_cons_succ, List.getElem?_nil, List.set_cons_zero, List.set_cons_succ, List.set_nil, List.length_cons, List.length_nil, List.map_cons, List.map_nil, List.cons_append, List.nil_append, List.replicate, Bool.not_true, Bool.not_false, if_true, if_false, Bool.false_eq_true, reduceIte, Nat.reduceAdd, Nat.reduceSub, Nat.reduceLeDiff, Nat.reduceEqDiff, decide_true, decide_false, q_iOf]) (by rw [nats_len, hpl]; show 2 * 8 ≤ 16777216; decide) fun x hx => by
      obtain ⟨p, hp, rfl⟩ := List.mem_map.mp hx
      refine ⟨_, rfl, ?_⟩
      unfold c_join_blocks_3
      show e2 fIx (eVar 3) (eVar 9) [v0, v1, v2, some (.own (vNats z)), some (.v (.int (k : Int))), y5, some (.own (vNats (pl k 8))), z7, y8, some (.v (.int (p : Int))), y10] h = EO.ok (.v (.int (z.getD p 0 : Nat))) h
      simp only [q_C, q_Var, q_evv, q_evo, q_evw, q_e1, q_e1k, q_e2, q_e2k, q_e2j, q_aNil, q_aCons, q_ack, q_acj, q_argv, q_argo, q_argw, q_keeps, q_keepsN, q_kpc, q_keepv, q_keepo, q_Tup, q_etk, q_etj, q_Lst, q_elk, q_elj, q_Call, q_If, q_ift, q_iff, q_tB, q_tbk, q_tTru, q_ttk, q_tAnd, q_takt, q_takf, q_tOr, q_tokt, q_tokf, q_tNot, q_tnk, q_tYes, q_And, q_ndk, q_ndt, q_ndf, q_Or, q_ork, q_ort, q_orf, q_Not, q_ntk, q_ntj, q_trN, q_trB, q_trI, q_trT, q_trR, q_trO, q_trW, q_Chain, q_chk, q_chj, q_chit, q_chif, q_sNil, q_sPass, q_sCons, q_sSet, q_ssv, q_sso, q_sOwn, q_sok, q_sHeap, q_shk, q_sFrz, q_sfj, q_sExpr, q_sxk, q_sRet, q_srv, q_sro, q_sRetOwn, q_roj, q_sRetN, q_sBreak, q_sCont, q_sIf, q_sift, q_siff, q_sApp, q_sapj, q_sapv, q_sapo, q_sExt, q_sexj, q_sexk, q_sexm, q_llo, q_llw, q_llr, q_sSetIx, q_sixv, q_sixo, q_sixj, q_sixl, q_sixm, q_sSetHp, q_hpv, q_hpo, q_hpj, q_hpl, q_hpm, q_hpn, q_sAugHp, q_agk, q_agj, q_agl, q_agm, q_agn, q_ago, q_agp, q_sUnp, q_unk, q_setc, q_setn, q_sPar2, q_p2v, q_p2o, q_p2jv, q_p2jo, q_sAug, q_auj, q_aul, q_aumv, q_aumo, q_sWhile, q_wht, q_whf, q_frk, q_forN, q_forC, q_flk, q_putN, q_putT, q_iok, q_ioj, q_svT, q_svR, q_svS, q_svO, q_seT, q_seR, q_seS, q_seO, q_seW, q_iView, q_ivw, q_ivv, q_iRng1, q_irk, q_Sl, q_slk1, q_slk2, q_slk3, q_ePN, q_ePS, q_epk, q_cutT, q_cutR, q_cutS, q_cutO, q_cutW, q_SlSt, q_stk1, q_stk2, q_stk3, q_revO, q_revR, q_revW, q_LR, q_lrk, q_lrj, q_iRng2, q_r2k, q_r2j, q_iRng3, q_r3k, q_r3j, q_r3i, q_sUnpL, q_ulk, q_ulj, q_lkO, q_lkR, q_lkW, q_lkT, q_sExtA, q_xaj, q_xak, q_xam, q_laO, q_laW, q_laR, q_laT, q_LR3, q_l3k, q_l3j, q_l3i, q_sSetSl, q_ssk2, q_ssj, q_ssl, q_ssm, q_ssn, opt_some, opt_none, EO.bind_ok, EO.bind_ex, EO.then_ok, EO.then_ex, SO.seq_nx, SO.seq_rt, SO.seq_bk, SO.seq_ct, SO.seq_ex, SO.turn_nx, SO.turn_ct, SO.turn_bk, SO.turn_rt, SO.turn_ex, add_ii, sub_ii, and_ii, or_ii, xor_ii, lt_ii, le_ii, gt_ii, ge_ii, max_ii, min_ii, neg_i, abs_i, int_i, eq_ii, ne_ii, len_tup, len_ro, len_own, len_view, list_tup, list_ro, list_scr, list_own, list_view, tuple_tup, tuple_ro, tuple_own, tuple_view, at0, at1, at2, at3, ix_tup, ix_ro, ix_own, ix_view, Option.map_some, line, List.getElem?_cons_zero, List.getElem?_cons_succ, List.getElem?_nil, List.set_cons_zero, List.set_cons_succ, List.set_nil, List.length_cons, List.length_nil, List.map_cons, List.map_nil, List.cons_append, List.nil_append, List.replicate, Bool.not_true, Bool.not_false, if_true, if_false, Bool.false_eq_true, reduceIte, Nat.reduceAdd, Nat.reduceSub, Nat.reduceLeDiff, Nat.reduceEqDiff, decide_true, decide_false, wd_at g (hlt p hp)]
  rw [fG_map] at ec
  have hw : Wd 16 (gather z (pl k 8)) := ⟨by rw [g_len, hpl], fun x hx => by
    obtain ⟨p, _, rfl⟩ := List.mem_map.mp hx
    exact wd_getD g p⟩
  have hget : ∀ us : List Nat, (h ++ [HObj.lst (vNats us)])[h.length]? = some (.lst (vNats us)) := fun us => by
    rw [List.getElem?_append_right (Nat.le_refl _), Nat.sub_self]
    rfl
  have hst := (stir_ok hw (hget _)).1
  have hs2 : (h ++ [HObj.lst (vNats (gather z (pl k 8)))]).set h.length (.lst (vNats (stirN (gather z (pl k 8))))) = h ++ [HObj.lst (vNats (stirN (gather z (pl k 8))))] := by
    rw [List.set_append_right _ _ (Nat.le_refl _), Nat.sub_self]
    rfl
  rw [hs2] at hst
  obtain ⟨z9, z10, ez⟩ := zip_loop (h := h ++ [HObj.lst (vNats (stirN (gather z (pl k 8))))]) (n := h.length) (P := pl k 8) (ys := stirN (gather z (pl k 8))) g hlt hpl (by rw [stirN_len]; exact hw.1) (hget _) (v0 := v0) (v1 := v1) (v2 := v2) (v4 := some (.v (.int (k : Int)))) (v5 := y5) (v7 := z7) (y9 := y9) (y10 := y10)
  have hc : scat z (pl k 8) (stirN (gather z (pl k 8))) 16 = colN z k := rfl
  rw [hc] at ez
  refine ⟨some (.v (.ro (vNats (pl k 8)))), z7, some (.v (.obj h.length)), z9, z10, .lst (vNats (stirN (gather z (pl k 8)))), ?_⟩
  unfold l_join_blocks_5
  generalize stirN (gather z (pl k 8)) = us at *
  generalize gather z (pl k 8) = gs at *
  generalize pl k 8 = ps at *
  simp only [q_C, q_Var, q_evv, q_evo, q_evw, q_e1, q_e1k, q_e2, q_e2k, q_e2j, q_aNil, q_aCons, q_ack, q_acj, q_argv, q_argo, q_argw, q_keeps, q_keepsN, q_kpc, q_keepv, q_keepo, q_Tup, q_etk, q_etj, q_Lst, q_elk, q_elj, q_Call, q_If, q_ift, q_iff, q_tB, q_tbk, q_tTru, q_ttk, q_tAnd, q_takt, q_takf, q_tOr, q_tokt, q_tokf, q_tNot, q_tnk, q_tYes, q_And, q_ndk, q_ndt, q_ndf, q_Or, q_ork, q_ort, q_orf, q_Not, q_ntk, q_ntj, q_trN, q_trB, q_trI, q_trT, q_trR, q_trO, q_trW, q_Chain, q_chk, q_chj, q_chit, q_chif, q_sNil, q_sPass, q_sCons, q_sSet, q_ssv, q_sso, q_sOwn, q_sok, q_sHeap, q_shk, q_sFrz, q_sfj, q_sExpr, q_sxk, q_sRet, q_srv, q_sro, q_sRetOwn, q_roj, q_sRetN, q_sBreak, q_sCont, q_sIf, q_sift, q_siff, q_sApp, q_sapj, q_sapv, q_sapo, q_sExt, q_sexj, q_sexk, q_sexm, q_llo, q_llw, q_llr, q_sSetIx, q_sixv, q_sixo, q_sixj, q_sixl, q_sixm, q_sSetHp, q_hpv, q_hpo, q_hpj, q_hpl, q_hpm, q_hpn, q_sAugHp, q_agk, q_agj, q_agl, q_agm, q_agn, q_ago, q_agp, q_sUnp, q_unk, q_setc, q_setn, q_sPar2, q_p2v, q_p2o, q_p2jv, q_p2jo, q_sAug, q_auj, q_aul, q_aumv, q_aumo, q_sWhile, q_wht, q_whf, q_frk, q_forN, q_forC, q_flk, q_putN, q_putT, q_iok, q_ioj, q_svT, q_svR, q_svS, q_svO, q_seT, q_seR, q_seS, q_seO, q_seW, q_iView, q_ivw, q_ivv, q_iRng1, q_irk, q_Sl, q_slk1, q_slk2, q_slk3, q_ePN, q_ePS, q_epk, q_cutT, q_cutR, q_cutS, q_cutO, q_cutW, q_SlSt, q_stk1, q_stk2, q_stk3, q_revO, q_revR, q_revW, q_LR, q_lrk, q_lrj, q_iRng2, q_r2k, q_r2j, q_iRng3, q_r3k, q_r3j, q_r3i, q_sUnpL, q_ulk, q_ulj, q_lkO, q_lkR, q_lkW, q_lkT, q_sExtA, q_xaj, q_xak, q_xam, q_laO, q_laW, q_laR, q_laT, q_LR3, q_l3k, q_l3j, q_l3i, q_sSetSl, q_ssk2, q_ssj, q_ssl, q_ssm, q_ssn, opt_some, opt_none, EO.bind_ok, EO.bind_ex, EO.then_ok, EO.then_ex, SO.seq_nx, SO.seq_rt, SO.seq_bk, SO.seq_ct, SO.seq_ex, SO.turn_nx, SO.turn_ct, SO.turn_bk, SO.turn_rt, SO.turn_ex, add_ii, sub_ii, and_ii, or_ii, xor_ii, lt_ii, le_ii, gt_ii, ge_ii, max_ii, min_ii, neg_i, abs_i, int_i, eq_ii, ne_ii, len_tup, len_ro, len_own, len_view, list_tup, list_ro, list_scr, list_own, list_view, tuple_tup, tuple_ro, tuple_own, tuple_view, at0, at1, at2, at3, ix_tup, ix_ro, ix_own, ix_view, Option.map_some, line, List.getElem?_cons_zero, List.getElem?_cons_succ, List.getElem?_nil, List.set_cons_zero, List.set_cons_succ, List.set_nil, List.length_cons, List.length_nil, List.map_cons, List.map_nil, List.cons_append, List.nil_append, List.replicate, Bool.not_true, Bool.not_false, if_true, if_false, Bool.false_eq_true, reduceIte, Nat.reduceAdd, Nat.reduceSub, Nat.reduceLeDiff, Nat.reduceEqDiff, decide_true, decide_false, el, ec, hst, ez]
def colsK (z : List Nat) : Nat → List Nat
  | 0 => z
  | k + 1 => colN (colsK z k) (2 * k)
theorem col_loop {h : Heap} {z : List Nat} (g : Wd 128 z) {v0 v1 v2 y4 y5 y6 y7 y8 y9 y10 : Option RV} :
    ∃ z4 z6 z7 z8 z9 z10 news, sFor (.nm 4) (iRng3 (eC (.int 0)) (eC (.int 16)) (eC (.int 2))) l_join_blocks_5 [v0, v1, v2, some (.own (vNats z)), y4, y5, y6, y7, y8, y9, y10] h = .nx [v0, v1, v2, some (.own (vNats (colsK z 8))), z4, y5, z6, z7, z8, z9, z10] (h ++ news) ∧ Wd 128 (colsK z 8) := by
  have r0 : PySem.Builtin.Range.rangeSize 0 16 2 = 8 := by decide
  have m0 : PySem.Builtin.Range.small 0 16 2 = true := by decide
  have k1 : (2 : Int) ≠ 0 := by decide
  have k2 : (2 : Int).natAbs < 1073741824 := by decide
  have k3 : (0 : Int) ≤ 8 := by decide
  have k4 : (8 : Int).toNat = 8 := rfl
  obtain ⟨r2, h2, e, news, z4, z6, z7, z8, z9, z10, rfl, rfl, gw⟩ := for_ok (g := .nm 4) (it := iRng3 (eC (.int 0)) (eC (.int 16)) (eC (.int 2))) (b := l_join_blocks_5) (r := [v0, v1, v2, some (.own (vNats z)), y4, y5, y6, y7, y8, y9, y10]) (h := h) (h1 := h) (xs := stepTo 0 2 8)
    (fun k r h' => ∃ news z4 z6 z7 z8 z9 z10, h' = h ++ news ∧ r = [v0, v1, v2, some (.own (vNats (colsK z k))), z4, y5, z6, z7, z8, z9, z10] ∧ Wd 128 (colsK z k)) (by
      simp only [q_C, q_Var, q_evv, q_evo, q_evw, q_e1, q_e1k, q_e2, q_e2k, q_e2j, q_aNil, q_aCons, q_ack, q_acj, q_argv, q_argo, q_argw, q_keeps, q_keepsN, q_kpc, q_keepv, q_keepo, q_Tup, q_etk, q_etj, q_Lst, q_elk, q_elj, q_Call, q_If, q_ift, q_iff, q_tB, q_tbk, q_tTru, q_ttk, q_tAnd, q_takt, q_takf, q_tOr, q_tokt, q_tokf, q_tNot, q_tnk, q_tYes, q_And, q_ndk, q_ndt, q_ndf, q_Or, q_ork, q_ort, q_orf, q_Not, q_ntk, q_ntj, q_trN, q_trB, q_trI, q_trT, q_trR, q_trO, q_trW, q_Chain, q_chk, q_chj, q_chit, q_chif, q_sNil, q_sPass, q_sCons, q_sSet, q_ssv, q_sso, q_sOwn, q_sok, q_sHeap, q_shk, q_sFrz, q_sfj, q_sExpr, q_sxk, q_sRet, q_srv, q_sro, q_sRetOwn, q_roj, q_sRetN, q_sBreak, q_sCont, q_sIf, q_sift, q_siff, q_sApp, q_sapj, q_sapv, q_sapo, q_sExt, q_sexj, q_sexk, q_sexm, q_llo, q_llw, q_llr, q_sSetIx, q_sixv, q_sixo, q_sixj, q_sixl, q_sixm, q_sSetHp, q_hpv, q_hpo, q_hpj, q_hpl, q_hpm, q_hpn, q_sAugHp, q_agk, q_agj, q_agl, q_agm, q_agn, q_ago, q_agp, q_sUnp, q_unk, q_setc, q_setn, q_sPar2, q_p2v, q_p2o, q_p2jv, q_p2jo, q_sAug, q_auj, q_aul, q_aumv, q_aumo, q_sWhile, q_wht, q_whf, q_frk, q_forN, q_forC, q_flk, q_putN, q_putT, q_iok, q_ioj, q_svT, q_svR, q_svS, q_svO, q_seT, q_seR, q_seS, q_seO, q_seW, q_iView, q_ivw, q_ivv, q_iRng1, q_irk, q_Sl, q_slk1, q_slk2, q_slk3, q_ePN, q_ePS, q_epk, q_cutT, q_cutR, q_cutS, q_cutO, q_cutW, q_SlSt, q_stk1, q_stk2, q_stk3, q_revO, q_revR, q_revW, q_LR, q_lrk, q_lrj, q_iRng2, q_r2k, q_r2j, q_iRng3, q_r3k, q_r3j, q_r3i, q_sUnpL, q_ulk, q_ulj, q_lkO, q_lkR, q_lkW, q_lkT, q_sExtA, q_xaj, q_xak, q_xam, q_laO, q_laW, q_laR, q_laT, q_LR3, q_l3k, q_l3j, q_l3i, q_sSetSl, q_ssk2, q_ssj, q_ssl, q_ssm, q_ssn, opt_some, opt_none, EO.bind_ok, EO.bind_ex, EO.then_ok, EO.then_ex, SO.seq_nx, SO.seq_rt, SO.seq_bk, SO.seq_ct, SO.seq_ex, SO.turn_nx, SO.turn_ct, SO.turn_bk, SO.turn_rt, SO.turn_ex, add_ii, sub_ii, and_ii, or_ii, xor_ii, lt_ii, le_ii, gt_ii, ge_ii, max_ii, min_ii, neg_i, abs_i, int_i, eq_ii, ne_ii, len_tup, len_ro, len_own, len_view, list_tup, list_ro, list_scr, list_own, list_view, tuple_tup, tuple_ro, tuple_own, tuple_view, at0, at1, at2, at3, ix_tup, ix_ro, ix_own, ix_view, Option.map_some, line, List.getElem?_cons_zero, List.getElem?_cons_succ, List.getElem?_nil, List.set_cons_zero, List.set_cons_succ, List.set_nil, List.length_cons, List.length_nil, List.map_cons, List.map_nil, List.cons_append, List.nil_append, List.replicate, Bool.not_true, Bool.not_false, if_true, if_false, Bool.false_eq_true, reduceIte, Nat.reduceAdd, Nat.reduceSub, Nat.reduceLeDiff, Nat.reduceEqDiff, decide_true, decide_false, r0, m0, k1, k2, k3, k4, ne_eq, not_false_eq_true, and_self]) ⟨[], _, _, _, _, _, _, (List.append_nil h).symm, rfl, g⟩ fun k v r h' hk ⟨news, z4, z6, z7, z8, z9, z10, e1, e2, gk⟩ => by
      subst e1 e2
      obtain ⟨hk8, rfl⟩ := step_at hk
      have ek : (0 : Int) + (k : Int) * 2 = ((2 * k : Nat) : Int) := by omega
      rw [ek]
      obtain ⟨w6, w7, w8, w9, w10, o, et⟩ := col_turn (h := h ++ news) (k := 2 * k) gk ⟨k, hk8, rfl⟩ (v0 := v0) (v1 := v1) (v2 := v2) (y5 := y5) (y6 := z6) (y7 := z7) (y8 := z8) (y9 := z9) (y10 := z10)
      exact ⟨_, rfl, _, _, .inl et, news ++ [o], some (.v (.int ((2 * k : Nat) : Int))), w6, w7, w8, w9, w10, by rw [List.append_assoc], rfl, colN_wd gk ⟨k, hk8, rfl⟩⟩
  exact ⟨z4, z6, z7, z8, z9, z10, news, e, gw⟩
def xorl (a b : List Nat) : List Nat := List.zipWith (fun x y => x ^^^ y) a b
theorem pairs_nats : ∀ xs ws : List Nat, pairs (vNats xs) (vNats ws) = (List.zip xs ws).map fun p => Val.tup [.int (p.1 : Int), .int (p.2 : Int)]
  | [], _ => by
    unfold pairs
    rfl
  | _ :: _, [] => by
    unfold pairs
    rfl
  | x :: xs, w :: ws => by
    show pairs (.int x :: vNats xs) (.int w :: vNats ws) = _
    unfold pairs
    rw [pairs_nats xs ws]
    rfl
def xv (v : Val) : Val := match v with
  | .tup [.int a, .int b] => .int (PySem.Builtin.bitXor a b)
  | _ => .none
theorem xv_map : ∀ xs ws : List Nat, (pairs (vNats xs) (vNats ws)).map xv = vNats (xorl xs ws)
  | [], _ => by
    rw [pairs_nats]
    rfl
  | _ :: _, [] => by
    rw [pairs_nats]
    rfl
  | x :: xs, w :: ws => by
    show (pairs (.int x :: vNats xs) (.int w :: vNats ws)).map xv = .int ((x ^^^ w : Nat) : Int) :: vNats (xorl xs ws)
    unfold pairs
    rw [List.map_cons, xv_map xs ws, show xv (.tup [.int (x : Int), .int (w : Int)]) = .int ((x ^^^ w : Nat) : Int) from congrArg Val.int (n_xor x w)]
/-- a list or a tuple of numbers that is only read -/
def Giv (v0 : RV) (ws : List Nat) : Prop := v0 = .v (.ro (vNats ws)) ∨ v0 = .v (.tup (vNats ws)) ∨ v0 = .view (vNats ws)
theorem giv_rd {h : Heap} {v0 : RV} {ws : List Nat} (g : Giv v0 ws) : evj h (some (some v0)) = .ok v0 h := by
  rcases g with g | g | g <;> subst g <;> rfl
theorem giv_arg {v0 : RV} {ws : List Nat} (g : Giv v0 ws) : v0.arg = v0 := by
  rcases g with g | g | g <;> subst g <;> rfl
theorem giv_len {h : Heap} {v0 : RV} {ws : List Nat} (g : Giv v0 ws) : fLen h v0 = some (.v (.int (ws.length : Int))) := by
  rcases g with g | g | g <;> subst g
  · rw [len_ro, nats_len]
  · rw [len_tup, nats_len]
  · rw [len_view, nats_len]
theorem giv_seq {h : Heap} {v0 : RV} {ws : List Nat} (g : Giv v0 ws) : ∃ t, seqE h v0 = some (t, vNats ws, []) := by
  rcases g with g | g | g <;> subst g
  · exact ⟨_, rfl⟩
  · exact ⟨_, rfl⟩
  · exact ⟨_, rfl⟩
theorem xor_ok {h : Heap} {v0 v1 : RV} {x y : List Nat} (g0 : Giv v0 x) (g1 : Giv v1 y) (hx : x.length ≤ 100000) : f_xor_blocks [v0, v1] h = .ok (.v (.tup (vNats (xorl x y)))) h := by
  unfold f_xor_blocks
  rw [mkFn_eq]
  unfold b_xor_blocks
  obtain ⟨t0, s0⟩ := giv_seq (h := h) g0
  obtain ⟨t1, s1⟩ := giv_seq (h := h) g1
  have ez : iZip seqE (eVar 0) (eVar 1) [some v0, some v1, none, none] h = .ok (pairs (vNats x) (vNats y), []) h := by
    unfold iZip
    simp only [q_Var, List.getElem?_cons_zero, List.getElem?_cons_succ, giv_rd g0, giv_rd g1, EO.bind_ok, s0, s1]
    rfl
  have hz : (pairs (vNats x) (vNats y)).length ≤ line := by
    rw [pairs_nats, List.length_map, List.length_zip]
    show _ ≤ 16777216
    omega
  have el : eLc [2, 3] (.tp [2, 3]) (iZip seqE (eVar 0) (eVar 1)) tYes c_xor_blocks_1 [some v0, some v1, none, none] h = .ok (.own ((pairs (vNats x) (vNats y)).map xv)) h :=
    lc_map xv ez hz fun z hz => by
      rw [pairs_nats] at hz
      obtain ⟨⟨a, b⟩, _, rfl⟩ := List.mem_map.mp hz
      refine ⟨_, rfl, ?_⟩
      unfold c_xor_blocks_1
      show e2 fXor (eVar 2) (eVar 3) [some v0, some v1, some (.v (.int (a : Int))), some (.v (.int (b : Int)))] _ = EO.ok (.v (.int (PySem.Builtin.bitXor (a : Int) (b : Int)))) _
      simp only [q_C, q_Var, q_evv, q_evo, q_evw, q_e1, q_e1k, q_e2, q_e2k, q_e2j, q_aNil, q_aCons, q_ack, q_acj, q_argv, q_argo, q_argw, q_keeps, q_keepsN, q_kpc, q_keepv, q_keepo, q_Tup, q_etk, q_etj, q_Lst, q_elk, q_elj, q_Call, q_If, q_ift, q_iff, q_tB, q_tbk, q_tTru, q_ttk, q_tAnd, q_takt, q_takf, q_tOr, q_tokt, q_tokf, q_tNot, q_tnk, q_tYes, q_And, q_ndk, q_ndt, q_ndf, q_Or, q_ork, q_ort, q_orf, q_Not, q_ntk, q_ntj, q_trN, q_trB, q_trI, q_trT, q_trR, q_trO, q_trW, q_Chain, q_chk, q_chj, q_chit, q_chif, q_sNil, q_sPass, q_sCons, q_sSet, q_ssv, q_sso, q_sOwn, q_sok, q_sHeap, q_shk, q_sFrz, q_sfj, q_sExpr, q_sxk, q_sRet, q_srv, q_sro, q_sRetOwn, q_roj, q_sRetN, q_sBreak, q_sCont, q_sIf, q_sift, q_siff, q_sApp, q_sapj, q_sapv, q_sapo, q_sExt, q_sexj, q_sexk, q_sexm, q_llo, q_llw, q_llr, q_sSetIx, q_sixv, q_sixo, q_sixj, q_sixl, q_sixm, q_sSetHp, q_hpv, q_hpo, q_hpj, q_hpl, q_hpm, q_hpn, q_sAugHp, q_agk, q_agj, q_agl, q_agm, q_agn, q_ago, q_agp, q_sUnp, q_unk, q_setc, q_setn, q_sPar2, q_p2v, q_p2o, q_p2jv, q_p2jo, q_sAug, q_auj, q_aul, q_aumv, q_aumo, q_sWhile, q_wht, q_whf, q_frk, q_forN, q_forC, q_flk, q_putN, q_putT, q_iok, q_ioj, q_svT, q_svR, q_svS, q_svO, q_seT, q_seR, q_seS, q_seO, q_seW, q_iView, q_ivw, q_ivv, q_iRng1, q_irk, q_Sl, q_slk1, q_slk2, q_slk3, q_ePN, q_ePS, q_epk, q_cutT, q_cutR, q_cutS, q_cutO, q_cutW, q_SlSt, q_stk1, q_stk2, q_stk3, q_revO, q_revR, q_revW, q_LR, q_lrk, q_lrj, q_iRng2, q_r2k, q_r2j, q_iRng3, q_r3k, q_r3j, q_r3i, q_sUnpL, q_ulk, q_ulj, q_lkO, q_lkR, q_lkW, q_lkT, q_sExtA, q_xaj, q_xak, q_xam, q_laO, q_laW, q_laR, q_laT, q_LR3, q_l3k, q_l3j, q_l3i, q_sSetSl, q_ssk2, q_ssj, q_ssl, q_ssm, q_ssn, opt_some, opt_none, EO.bind_ok, EO.bind_ex, EO.then_ok, EO.then_ex, SO.seq_nx, SO.seq_rt, SO.seq_bk, SO.seq_ct, SO.seq_ex, SO.turn_nx, SO.turn_ct, SO.turn_bk, SO.turn_rt, SO.turn_ex, add_ii, sub_ii, and_ii, or_ii, xor_ii, lt_ii, le_ii, gt_ii, ge_ii, max_ii, min_ii, neg_i, abs_i, int_i, eq_ii, ne_ii, len_tup, len_ro, len_own, len_view, list_tup, list_ro, list_scr, list_own, list_view, tuple_tup, tuple_ro, tuple_own, tuple_view, at0, at1, at2, at3, ix_tup, ix_ro, ix_own, ix_view, Option.map_some, line, List.getElem?_cons_zero, List.getElem?_cons_succ, List.getElem?_nil, List.set_cons_zero, List.set_cons_succ, List.set_nil, List.length_cons, List.length_nil, List.map_cons, List.map_nil, List.cons_append, List.nil_append, List.replicate, Bool.not_true, Bool.not_false, if_true, if_false, Bool.false_eq_true, reduceIte, Nat.reduceAdd, Nat.reduceSub, Nat.reduceLeDiff, Nat.reduceEqDiff, decide_true, decide_false]
  rw [xv_map] at el
  simp only [q_C, q_Var, q_evv, q_evo, q_evw, q_e1, q_e1k, q_e2, q_e2k, q_e2j, q_aNil, q_aCons, q_ack, q_acj, q_argv, q_argo, q_argw, q_keeps, q_keepsN, q_kpc, q_keepv, q_keepo, q_Tup, q_etk, q_etj, q_Lst, q_elk, q_elj, q_Call, q_If, q_ift, q_iff, q_tB, q_tbk, q_tTru, q_ttk, q_tAnd, q_takt, q_takf, q_tOr, q_tokt, q_tokf, q_tNot, q_tnk, q_tYes, q_And, q_ndk, q_ndt, q_ndf, q_Or, q_ork, q_ort, q_orf, q_Not, q_ntk, q_ntj, q_trN, q_trB, q_trI, q_trT, q_trR, q_trO, q_trW, q_Chain, q_chk, q_chj, q_chit, q_chif, q_sNil, q_sPass, q_sCons, q_sSet, q_ssv, q_sso, q_sOwn, q_sok, q_sHeap, q_shk, q_sFrz, q_sfj, q_sExpr, q_sxk, q_sRet, q_srv, q_sro, q_sRetOwn, q_roj, q_sRetN, q_sBreak, q_sCont, q_sIf, q_sift, q_siff, q_sApp, q_sapj, q_sapv, q_sapo, q_sExt, q_sexj, q_sexk, q_sexm, q_llo, q_llw, q_llr, q_sSetIx, q_sixv, q_sixo, q_sixj, q_sixl, q_sixm, q_sSetHp, q_hpv, q_hpo, q_hpj, q_hpl, q_hpm, q_hpn, q_sAugHp, q_agk, q_agj, q_agl, q_agm, q_agn, q_ago, q_agp, q_sUnp, q_unk, q_setc, q_setn, q_sPar2, q_p2v, q_p2o, q_p2jv, q_p2jo, q_sAug, q_auj, q_aul, q_aumv, q_aumo, q_sWhile, q_wht, q_whf, q_frk, q_forN, q_forC, q_flk, q_putN, q_putT, q_iok, q_ioj, q_svT, q_svR, q_svS, q_svO, q_seT, q_seR, q_seS, q_seO, q_seW, q_iView, q_ivw, q_ivv, q_iRng1, q_irk, q_Sl, q_slk1, q_slk2, q_slk3, q_ePN, q_ePS, q_epk, q_cutT, q_cutR, q_cutS, q_cutO, q_cutW, q_SlSt, q_stk1, q_stk2, q_stk3, q_revO, q_revR, q_revW, q_LR, q_lrk, q_lrj, q_iRng2, q_r2k, q_r2j, q_iRng3, q_r3k, q_r3j, q_r3i, q_sUnpL, q_ulk, q_ulj, q_lkO, q_lkR, q_lkW, q_lkT, q_sExtA, q_xaj, q_xak, q_xam, q_laO, q_laW, q_laR, q_laT, q_LR3, q_l3k, q_l3j, q_l3i, q_sSetSl, q_ssk2, q_ssj, q_ssl, q_ssm, q_ssn, opt_some, opt_none, EO.bind_ok, EO.bind_ex, EO.then_ok, EO.then_ex, SO.seq_nx, SO.seq_rt, SO.seq_bk, SO.seq_ct, SO.seq_ex, SO.turn_nx, SO.turn_ct, SO.turn_bk, SO.turn_rt, SO.turn_ex, add_ii, sub_ii, and_ii, or_ii, xor_ii, lt_ii, le_ii, gt_ii, ge_ii, max_ii, min_ii, neg_i, abs_i, int_i, eq_ii, ne_ii, len_tup, len_ro, len_own, len_view, list_tup, list_ro, list_scr, list_own, list_view, tuple_tup, tuple_ro, tuple_own, tuple_view, at0, at1, at2, at3, ix_tup, ix_ro, ix_own, ix_view, Option.map_some, line, List.getElem?_cons_zero, List.getElem?_cons_succ, List.getElem?_nil, List.set_cons_zero, List.set_cons_succ, List.set_nil, List.length_cons, List.length_nil, List.map_cons, List.map_nil, List.cons_append, List.nil_append, List.replicate, Bool.not_true, Bool.not_false, if_true, if_false, Bool.false_eq_true, reduceIte, Nat.reduceAdd, Nat.reduceSub, Nat.reduceLeDiff, Nat.reduceEqDiff, decide_true, decide_false, el]
  exact fin_self
theorem demand_ok {h : Heap} {v0 : RV} {x : List Nat} (g0 : Giv v0 x) (hx : x.length = 128) : f_demand_block [v0] h = .ok (.v .none) h := by
  unfold f_demand_block
  rw [mkFn_eq]
  unfold b_demand_block
  have c : ((128 : Nat) : Int) = 128 := rfl
  simp only [q_C, q_Var, q_evv, q_evo, q_evw, q_e1, q_e1k, q_e2, q_e2k, q_e2j, q_aNil, q_aCons, q_ack, q_acj, q_argv, q_argo, q_argw, q_keeps, q_keepsN, q_kpc, q_keepv, q_keepo, q_Tup, q_etk, q_etj, q_Lst, q_elk, q_elj, q_Call, q_If, q_ift, q_iff, q_tB, q_tbk, q_tTru, q_ttk, q_tAnd, q_takt, q_takf, q_tOr, q_tokt, q_tokf, q_tNot, q_tnk, q_tYes, q_And, q_ndk, q_ndt, q_ndf, q_Or, q_ork, q_ort, q_orf, q_Not, q_ntk, q_ntj, q_trN, q_trB, q_trI, q_trT, q_trR, q_trO, q_trW, q_Chain, q_chk, q_chj, q_chit, q_chif, q_sNil, q_sPass, q_sCons, q_sSet, q_ssv, q_sso, q_sOwn, q_sok, q_sHeap, q_shk, q_sFrz, q_sfj, q_sExpr, q_sxk, q_sRet, q_srv, q_sro, q_sRetOwn, q_roj, q_sRetN, q_sBreak, q_sCont, q_sIf, q_sift, q_siff, q_sApp, q_sapj, q_sapv, q_sapo, q_sExt, q_sexj, q_sexk, q_sexm, q_llo, q_llw, q_llr, q_sSetIx, q_sixv, q_sixo, q_sixj, q_sixl, q_sixm, q_sSetHp, q_hpv, q_hpo, q_hpj, q_hpl, q_hpm, q_hpn, q_sAugHp, q_agk, q_agj, q_agl, q_agm, q_agn, q_ago, q_agp, q_sUnp, q_unk, q_setc, q_setn, q_sPar2, q_p2v, q_p2o, q_p2jv, q_p2jo, q_sAug, q_auj, q_aul, q_aumv, q_aumo, q_sWhile, q_wht, q_whf, q_frk, q_forN, q_forC, q_flk, q_putN, q_putT, q_iok, q_ioj, q_svT, q_svR, q_svS, q_svO, q_seT, q_seR, q_seS, q_seO, q_seW, q_iView, q_ivw, q_ivv, q_iRng1, q_irk, q_Sl, q_slk1, q_slk2, q_slk3, q_ePN, q_ePS, q_epk, q_cutT, q_cutR, q_cutS, q_cutO, q_cutW, q_SlSt, q_stk1, q_stk2, q_stk3, q_revO, q_revR, q_revW, q_LR, q_lrk, q_lrj, q_iRng2, q_r2k, q_r2j, q_iRng3, q_r3k, q_r3j, q_r3i, q_sUnpL, q_ulk, q_ulj, q_lkO, q_lkR, q_lkW, q_lkT, q_sExtA, q_xaj, q_xak, q_xam, q_laO, q_laW, q_laR, q_laT, q_LR3, q_l3k, q_l3j, q_l3i, q_sSetSl, q_ssk2, q_ssj, q_ssl, q_ssm, q_ssn, opt_some, opt_none, EO.bind_ok, EO.bind_ex, EO.then_ok, EO.then_ex, SO.seq_nx, SO.seq_rt, SO.seq_bk, SO.seq_ct, SO.seq_ex, SO.turn_nx, SO.turn_ct, SO.turn_bk, SO.turn_rt, SO.turn_ex, add_ii, sub_ii, and_ii, or_ii, xor_ii, lt_ii, le_ii, gt_ii, ge_ii, max_ii, min_ii, neg_i, abs_i, int_i, eq_ii, ne_ii, len_tup, len_ro, len_own, len_view, list_tup, list_ro, list_scr, list_own, list_view, tuple_tup, tuple_ro, tuple_own, tuple_view, at0, at1, at2, at3, ix_tup, ix_ro, ix_own, ix_view, Option.map_some, line, List.getElem?_cons_zero, List.getElem?_cons_succ, List.getElem?_nil, List.set_cons_zero, List.set_cons_succ, List.set_nil, List.length_cons, List.length_nil, List.map_cons, List.map_nil, List.cons_append, List.nil_append, List.replicate, Bool.not_true, Bool.not_false, if_true, if_false, Bool.false_eq_true, reduceIte, Nat.reduceAdd, Nat.reduceSub, Nat.reduceLeDiff, Nat.reduceEqDiff, decide_true, decide_false, giv_rd g0, giv_len g0, hx, c]
  exact fin_selfN
def joinN (x y : List Nat) : List Nat := xorl (colsK (rowsK (xorl x y) 8) 8) (xorl x y)
theorem xor_mem : ∀ {xs ys : List Nat}, (∀ x, x ∈ xs → x < 2 ^ 64) → (∀ y, y ∈ ys → y < 2 ^ 64) → ∀ z, z ∈ xorl xs ys → z < 2 ^ 64
  | [], _, _, _, z, hz => by simp [xorl] at hz
  | _ :: _, [], _, _, z, hz => by simp [xorl] at hz
  | x :: xs, y :: ys, h1, h2, z, hz => by
    have hz : z ∈ (x ^^^ y) :: xorl xs ys := hz
    rcases List.mem_cons.mp hz with e | e
    · rw [e]
      exact Nat.xor_lt_two_pow (h1 x List.mem_cons_self) (h2 y List.mem_cons_self)
    · exact xor_mem (fun a ha => h1 a (List.mem_cons_of_mem _ ha)) (fun a ha => h2 a (List.mem_cons_of_mem _ ha)) z e
theorem xor_wd {L : Nat} {x y : List Nat} (g : Wd L x) (g2 : Wd L y) : Wd L (xorl x y) := ⟨by unfold xorl; rw [List.length_zipWith, g.1, g2.1]; exact Nat.min_self _, xor_mem g.2 g2.2⟩
theorem join_ok {h : Heap} {v0 v1 : RV} {x y : List Nat} (g0 : Giv v0 x) (g1 : Giv v1 y) (w0 : Wd 128 x) (w1 : Wd 128 y) : f_join_blocks [v0, v1] h = .ok (.v (.tup (vNats (joinN x y)))) h := by
  unfold f_join_blocks
  rw [mkFn_eq]
  unfold b_join_blocks
  have d0 := demand_ok (h := h) g0 w0.1
  have d1 := demand_ok (h := h) g1 w1.1
  have ex := xor_ok (h := h) g0 g1 (by rw [w0.1]; decide)
  have gr := xor_wd w0 w1
  obtain ⟨z4, z5, n1, l1, gw1⟩ := row_loop (h := h) gr (v0 := some v0) (v1 := some v1) (v2 := some (.v (.tup (vNats (xorl x y))))) (y4 := none) (y5 := none) (y6 := none) (y7 := none) (y8 := none) (y9 := none) (y10 := none)
  obtain ⟨a4, a6, a7, a8, a9, a10, n2, l2, gw2⟩ := col_loop (h := h ++ n1) gw1 (v0 := some v0) (v1 := some v1) (v2 := some (.v (.tup (vNats (xorl x y))))) (y4 := z4) (y5 := z5) (y6 := none) (y7 := none) (y8 := none) (y9 := none) (y10 := none)
  have ex2 := xor_ok (h := h ++ n1 ++ n2) (v0 := .view (vNats (colsK (rowsK (xorl x y) 8) 8))) (v1 := .v (.tup (vNats (xorl x y)))) (.inr (.inr rfl)) (.inr (.inl rfl)) (by rw [gw2.1]; decide)
  have ej : xorl (colsK (rowsK (xorl x y) 8) 8) (xorl x y) = joinN x y := rfl
  rw [ej] at ex2
  generalize joinN x y = us at *
  generalize colsK (rowsK (xorl x y) 8) 8 = cs at *
  generalize rowsK (xorl x y) 8 = rs at *
  generalize xorl x y = qs at *
  simp only [q_C, q_Var, q_evv, q_evo, q_evw, q_e1, q_e1k, q_e2, q_e2k, q_e2j, q_aNil, q_aCons, q_ack, q_acj, q_argv, q_argo, q_argw, q_keeps, q_keepsN, q_kpc, q_keepv, q_keepo, q_Tup, q_etk, q_etj, q_Lst, q_elk, q_elj, q_Call, q_If, q_ift, q_iff, q_tB, q_tbk, q_tTru, q_ttk, q_tAnd, q_takt, q_takf, q_tOr, q_tokt, q_tokf, q_tNot, q_tnk, q_tYes, q_And, q_ndk, q_ndt, q_ndf, q_Or, q_ork, q_ort, q_orf, q_Not, q_ntk, q_ntj, q_trN, q_trB, q_trI, q_trT, q_trR, q_trO, q_trW, q_Chain, q_chk, q_chj, q_chit, q_chif, q_sNil, q_sPass, q_sCons, q_sSet, q_ssv, q_sso, q_sOwn, q_sok, q_sHeap, q_shk, q_sFrz, q_sfj, q_sExpr, q_sxk, q_sRet, q_srv, q_sro, q_sRetOwn, q_roj, q_sRetN, q_sBreak, q_sCont, q_sIf, q_sift, q_siff, q_sApp, q_sapj, q_sapv, q_sapo, q_sExt, q_sexj, q_sexk, q_sexm, q_llo, q_llw, q_llr, q_sSetIx, q_sixv, q_sixo, q_sixj, q_sixl, q_sixm, q_sSetHp, q_hpv, q_hpo, q_hpj, q_hpl, q_hpm, q_hpn, q_sAugHp, q_agk, q_agj, q_agl, q_agm, q_agn, q_ago, q_agp, q_sUnp, q_unk, q_setc, q_setn, q_sPar2, q_p2v, q_p2o, q_p2jv, q_p2jo, q_sAug, q_auj, q_aul, q_aumv, q_aumo, q_sWhile, q_wht, q_whf, q_frk, q_forN, q_forC, q_flk, q_putN, q_putT, q_iok, q_ioj, q_svT, q_svR, q_svS, q_svO, q_seT, q_seR, q_seS, q_seO, q_seW, q_iView, q_ivw, q_ivv, q_iRng1, q_irk, q_Sl, q_slk1, q_slk2, q_slk3, q_ePN, q_ePS, q_epk, q_cutT, q_cutR, q_cutS, q_cutO, q_cutW, q_SlSt, q_stk1, q_stk2, q_stk3, q_revO, q_revR, q_revW, q_LR, q_lrk, q_lrj, q_iRng2, q_r2k, q_r2j, q_iRng3, q_r3k, q_r3j, q_r3i, q_sUnpL, q_ulk, q_ulj, q_lkO, q_lkR, q_lkW, q_lkT, q_sExtA, q_xaj, q_xak, q_xam, q_laO, q_laW, q_laR, q_laT, q_LR3, q_l3k, q_l3j, q_l3i, q_sSetSl, q_ssk2, q_ssj, q_ssl, q_ssm, q_ssn, opt_some, opt_none, EO.bind_ok, EO.bind_ex, EO.then_ok, EO.then_ex, SO.seq_nx, SO.seq_rt, SO.seq_bk, SO.seq_ct, SO.seq_ex, SO.turn_nx, SO.turn_ct, SO.turn_bk, SO.turn_rt, SO.turn_ex, add_ii, sub_ii, and_ii, or_ii, xor_ii, lt_ii, le_ii, gt_ii, ge_ii, max_ii, min_ii, neg_i, abs_i, int_i, eq_ii, ne_ii, len_tup, len_ro, len_own, len_view, list_tup, list_ro, list_scr, list_own, list_view, tuple_tup, tuple_ro, tuple_own, tuple_view, at0, at1, at2, at3, ix_tup, ix_ro, ix_own, ix_view, Option.map_some, line, List.getElem?_cons_zero, List.getElem?_cons_succ, List.getElem?_nil, List.set_cons_zero, List.set_cons_succ, List.set_nil, List.length_cons, List.length_nil, List.map_cons, List.map_nil, List.cons_append, List.nil_append, List.replicate, Bool.not_true, Bool.not_false, if_true, if_false, Bool.false_eq_true, reduceIte, Nat.reduceAdd, Nat.reduceSub, Nat.reduceLeDiff, Nat.reduceEqDiff, decide_true, decide_false, giv_rd g0, giv_rd g1, giv_arg g0, giv_arg g1, d0, d1, ex, l1, l2, ex2]
  rw [List.append_assoc]
  exact fin_new (under_tup _ us)
/-! ### the draws -/
theorem drq {h : Heap} {n : Nat} {st : List Val} {m : Int} (hn : h[n]? = some (.lst st)) (hst : IsSt st) (hm : 0 < m) (hl : m.natAbs.log2 < 9000) :
    ∃ v st', f__law_draw [.v (.obj n), .v (.int m)] h = .ok (.v (.int v)) (h.set n (.lst st')) ∧ IsSt st' ∧ 0 ≤ v ∧ v < m := draw_ok hn hst hm hl
theorem nat_of {v : Int} (h : 0 ≤ v) : ∃ k : Nat, v = (k : Int) := ⟨v.toNat, (Int.toNat_of_nonneg h).symm⟩
theorem rng_ok {a : E} {r : Env} {h : Heap} {i : Int} {n : Nat} (ha : a r h = .ok (.v (.int i)) h) (hi : i = (n : Int)) (hn : n < 1000000) : iRng1 a r h = .ok (upTo 0 n, []) h := by
  subst hi
  rw [q_iRng1, ha, EO.bind_ok, q_irk, if_pos ⟨by omega, by omega⟩, Int.toNat_natCast]
theorem block_ok {h : Heap} {n : Nat} {st : List Val} (hn : h[n]? = some (.lst st)) (hst : IsSt st) : ∃ ws st', f__law_block [.v (.obj n)] h = .ok (.own (vNats ws)) (h.set n (.lst st')) ∧ IsSt st' ∧ Wd 128 ws := by
  have hlt : n < h.length := (List.getElem?_eq_some_iff.mp hn).1
  have hset : ∀ o, (h.set n o)[n]? = some o := fun o => List.getElem?_set_self hlt
  have h0 : h = h.set n (.lst st) := by
    refine List.ext_getElem? fun k => ?_
    by_cases hk : n = k
    · subst hk; rw [hset, hn]
    · rw [List.getElem?_set_ne hk]
  obtain ⟨r2, h2, el, ws, st1, y2, rfl, rfl, hw, hw2, hst1⟩ := for_ok (g := .nm 2) (it := iRng1 (eC (.int 128))) (b := l__law_block_1) (r := [some (.v (.obj n)), some (.own []), none]) (h := h) (h1 := h) (xs := upTo 0 128)
    (fun k r h' => ∃ ws st y2, r = [some (.v (.obj n)), some (.own (vNats ws)), y2] ∧ h' = h.set n (.lst st) ∧ ws.length = k ∧ (∀ x, x ∈ ws → x < 2 ^ 64) ∧ IsSt st) (rng_ok (n := 128) rfl rfl (by decide)) ⟨[], st, none, rfl, h0, rfl, fun x hx => (by cases hx), hst⟩ fun k x r h' hk ⟨ws, st1, y2, g1, g2, g3, g4, g5⟩ => by
      subst g1 g2
      have hk128 : k < 128 := by
        have := (List.getElem?_eq_some_iff.mp hk).1
        rw [upTo_len] at this
        exact this
      obtain ⟨a, sa, ea, ia, a0, a1⟩ := drq (m := 4294967296) (hset (.lst st1)) g5 (by decide) (by decide +kernel)
      rw [List.set_set] at ea
      obtain ⟨b, sb, eb, ib, b0, b1⟩ := drq (m := 4294967296) (hset (.lst sa)) ia (by decide) (by decide +kernel)
      rw [List.set_set] at eb
      obtain ⟨a, rfl⟩ := nat_of a0
      obtain ⟨b, rfl⟩ := nat_of b0
      have cm : CMul (a : Int) 4294967296 := cmul_nat (a := a) (b := 4294967296) (by omega) (by decide)
      have ec : (a : Int) * 4294967296 + (b : Int) = ((a * 4294967296 + b : Nat) : Int) := by omega
      have hz : ws.length < 16777216 := by omega
      have ep : vNats ws ++ [Val.int ((a * 4294967296 + b : Nat) : Int)] = vNats (ws ++ [a * 4294967296 + b]) := by
        show _ = List.map _ _
        rw [List.map_append]
        rfl
      refine ⟨_, rfl, _, _, .inl ?_, ws ++ [a * 4294967296 + b], sb, some (.v x), rfl, rfl, by rw [List.length_append, g3]; rfl, fun y hy => ?_, ib⟩
      · unfold l__law_block_1
        simp only [q_C, q_Var, q_evv, q_evo, q_evw, q_e1, q_e1k, q_e2, q_e2k, q_e2j, q_aNil, q_aCons, q_ack, q_acj, q_argv, q_argo, q_argw, q_keeps, q_keepsN, q_kpc, q_keepv, q_keepo, q_Tup, q_etk, q_etj, q_Lst, q_elk, q_elj, q_Call, q_If, q_ift, q_iff, q_tB, q_tbk, q_tTru, q_ttk, q_tAnd, q_takt, q_takf, q_tOr, q_tokt, q_tokf, q_tNot, q_tnk, q_tYes, q_And, q_ndk, q_ndt, q_ndf, q_Or, q_ork, q_ort, q_orf, q_Not, q_ntk, q_ntj, q_trN, q_trB, q_trI, q_trT, q_trR, q_trO, q_trW, q_Chain, q_chk, q_chj, q_chit, q_chif, q_sNil, q_sPass, q_sCons, q_sSet, q_ssv, q_sso, q_sOwn, q_sok, q_sHeap, q_shk, q_sFrz, q_sfj, q_sExpr, q_sxk, q_sRet, q_srv, q_sro, q_sRetOwn, q_roj, q_sRetN, q_sBreak, q_sCont, q_sIf, q_sift, q_siff, q_sApp, q_sapj, q_sapv, q_sapo, q_sExt, q_sexj, q_sexk, q_sexm, q_llo, q_llw, q_llr, q_sSetIx, q_sixv, q_sixo, q_sixj, q_sixl, q_sixm, q_sSetHp, q_hpv, q_hpo, q_hpj, q_hpl, q_hpm, q_hpn, q_sAugHp, q_agk, q_agj, q_agl, q_agm, q_agn, q_ago, q_agp, q_sUnp, q_unk, q_setc, q_setn, q_sPar2, q_p2v, q_p2o, q_p2jv, q_p2jo, q_sAug, q_auj, q_aul, q_aumv, q_aumo, q_sWhile, q_wht, q_whf, q_frk, q_forN, q_forC, q_flk, q_putN, q_putT, q_iok, q_ioj, q_svT, q_svR, q_svS, q_svO, q_seT, q_seR, q_seS, q_seO, q_seW, q_iView, q_ivw, q_ivv, q_iRng1, q_irk, q_Sl, q_slk1, q_slk2, q_slk3, q_ePN, q_ePS, q_epk, q_cutT, q_cutR, q_cutS, q_cutO, q_cutW, q_SlSt, q_stk1, q_stk2, q_stk3, q_revO, q_revR, q_revW, q_LR, q_lrk, q_lrj, q_iRng2, q_r2k, q_r2j, q_iRng3, q_r3k, q_r3j, q_r3i, q_sUnpL, q_ulk, q_ulj, q_lkO, q_lkR, q_lkW, q_lkT, q_sExtA, q_xaj, q_xak, q_xam, q_laO, q_laW, q_laR, q_laT, q_LR3, q_l3k, q_l3j, q_l3i, q_sSetSl, q_ssk2, q_ssj, q_ssl, q_ssm, q_ssn, opt_some, opt_none, EO.bind_ok, EO.bind_ex, EO.then_ok, EO.then_ex, SO.seq_nx, SO.seq_rt, SO.seq_bk, SO.seq_ct, SO.seq_ex, SO.turn_nx, SO.turn_ct, SO.turn_bk, SO.turn_rt, SO.turn_ex, add_ii, sub_ii, and_ii, or_ii, xor_ii, lt_ii, le_ii, gt_ii, ge_ii, max_ii, min_ii, neg_i, abs_i, int_i, eq_ii, ne_ii, len_tup, len_ro, len_own, len_view, list_tup, list_ro, list_scr, list_own, list_view, tuple_tup, tuple_ro, tuple_own, tuple_view, at0, at1, at2, at3, ix_tup, ix_ro, ix_own, ix_view, Option.map_some, line, List.getElem?_cons_zero, List.getElem?_cons_succ, List.getElem?_nil, List.set_cons_zero, List.set_cons_succ, List.set_nil, List.length_cons, List.length_nil, List.map_cons, List.map_nil, List.cons_append, List.nil_append, List.replicate, Bool.not_true, Bool.not_false, if_true, if_false, Bool.false_eq_true, reduceIte, Nat.reduceAdd, Nat.reduceSub, Nat.reduceLeDiff, Nat.reduceEqDiff, decide_true, decide_false, ea, eb, mul_ii cm, ec, nats_len, hz, ep]
      · rcases List.mem_append.mp hy with hy | hy
        · exact g4 y hy
        · rw [List.mem_singleton.mp hy]
          omega
  rw [upTo_len] at hw
  obtain ⟨c, sc, ec, ic, c0, c1⟩ := drq (m := 4) (hset (.lst st1)) hst1 (by decide) (by decide +kernel)
  rw [List.set_set] at ec
  unfold f__law_block
  rw [mkFn_eq]
  unfold b__law_block
  by_cases h5 : c = 3
  · subst h5
    obtain ⟨d, sd, ed, id, d0, d1⟩ := drq (m := 3) (hset (.lst sc)) ic (by decide) (by decide +kernel)
    rw [List.set_set] at ed
    obtain ⟨j, sj, ej, ij, j0, j1⟩ := drq (m := 128) (hset (.lst sd)) id (by decide) (by decide +kernel)
    rw [List.set_set] at ej
    obtain ⟨j, rfl⟩ := nat_of j0
    have hx : ∃ z : Nat, z < 2 ^ 64 ∧ L2.atI [Val.int 0, .int 18446744073709551615, .int 4294967295] d = some (.int (z : Int)) := by
      have : d = 0 ∨ d = 1 ∨ d = 2 := by omega
      rcases this with h | h | h <;> subst h
      · exact ⟨0, by decide, rfl⟩
      · exact ⟨18446744073709551615, by decide, rfl⟩
      · exact ⟨4294967295, by decide, rfl⟩
    obtain ⟨z, z1, ez⟩ := hx
    refine ⟨ws.set j z, sj, ?_, ij, wd_set ⟨hw, hw2⟩ j z1⟩
    have i1 : L2.ixN 128 (j : Int) = some j := ixN_nat (by omega)
    simp only [q_C, q_Var, q_evv, q_evo, q_evw, q_e1, q_e1k, q_e2, q_e2k, q_e2j, q_aNil, q_aCons, q_ack, q_acj, q_argv, q_argo, q_argw, q_keeps, q_keepsN, q_kpc, q_keepv, q_keepo, q_Tup, q_etk, q_etj, q_Lst, q_elk, q_elj, q_Call, q_If, q_ift, q_iff, q_tB, q_tbk, q_tTru, q_ttk, q_tAnd, q_takt, q_takf, q_tOr, q_tokt, q_tokf, q_tNot, q_tnk, q_tYes, q_And, q_ndk, q_ndt, q_ndf, q_Or, q_ork, q_ort, q_orf, q_Not, q_ntk, q_ntj, q_trN, q_trB, q_trI, q_trT, q_trR, q_trO, q_trW, q_Chain, q_chk, q_chj, q_chit, q_chif, q_sNil, q_sPass, q_sCons, q_sSet, q_ssv, q_sso, q_sOwn, q_sok, q_sHeap, q_shk, q_sFrz, q_sfj, q_sExpr, q_sxk, q_sRet, q_srv, q_sro, q_sRetOwn, q_roj, q_sRetN, q_sBreak, q_sCont, q_sIf, q_sift, q_siff, q_sApp, q_sapj, q_sapv, q_sapo, q_sExt, q_sexj, q_sexk, q_sexm, q_llo, q_llw, q_llr, q_sSetIx, q_sixv, q_sixo, q_sixj, q_sixl, q_sixm, q_sSetHp, q_hpv, q_hpo, q_hpj, q_hpl, q_hpm, q_hpn, q_sAugHp, q_agk, q_agj, q_agl, q_agm, q_agn, q_ago, q_agp, q_sUnp, q_unk, q_setc, q_setn, q_sPar2, q_p2v, q_p2o, q_p2jv, q_p2jo, q_sAug, q_auj, q_aul, q_aumv, q_aumo, q_sWhile, q_wht, q_whf, q_frk, q_forN, q_forC, q_flk, q_putN, q_putT, q_iok, q_ioj, q_svT, q_svR, q_svS, q_svO, q_seT, q_seR, q_seS, q_seO, q_seW, q_iView, q_ivw, q_ivv, q_iRng1, q_irk, q_Sl, q_slk1, q_slk2, q_slk3, q_ePN, q_ePS, q_epk, q_cutT, q_cutR, q_cutS, q_cutO, q_cutW, q_SlSt, q_stk1, q_stk2, q_stk3, q_revO, q_revR, q_revW, q_LR, q_lrk, q_lrj, q_iRng2, q_r2k, q_r2j, q_iRng3, q_r3k, q_r3j, q_r3i, q_sUnpL, q_ulk, q_ulj, q_lkO, q_lkR, q_lkW, q_lkT, q_sExtA, q_xaj, q_xak, q_xam, q_laO, q_laW, q_laR, q_laT, q_LR3, q_l3k, q_l3j, q_l3i, q_sSetSl, q_ssk2, q_ssj, q_ssl, q_ssm, q_ssn, opt_some, opt_none, EO.bind_ok, EO.bind_ex, EO.then_ok, EO.then_ex, SO.seq_nx, SO.seq_rt, SO.seq_bk, SO.seq_ct, SO.seq_ex, SO.turn_nx, SO.turn_ct, SO.turn_bk, SO.turn_rt, SO.turn_ex, add_ii, sub_ii, and_ii, or_ii, xor_ii, lt_ii, le_ii, gt_ii, ge_ii, max_ii, min_ii, neg_i, abs_i, int_i, eq_ii, ne_ii, len_tup, len_ro, len_own, len_view, list_tup, list_ro, list_scr, list_own, list_view, tuple_tup, tuple_ro, tuple_own, tuple_view, at0, at1, at2, at3, ix_tup, ix_ro, ix_own, ix_view, Option.map_some, line, List.getElem?_cons_zero, List.getElem?_cons_succ, List.getElem?_nil, List.set_cons_zero, List.set_cons_succ, List.set_nil, List.length_cons, List.length_nil, List.map_cons, List.map_nil, List.cons_append, List.nil_append, List.replicate, Bool.not_true, Bool.not_false, if_true, if_false, Bool.false_eq_true, reduceIte, Nat.reduceAdd, Nat.reduceSub, Nat.reduceLeDiff, Nat.reduceEqDiff, decide_true, decide_false, el, ec, ed, ej, ez, nats_len, hw, i1, nats_set]
    exact fin_len List.length_set
  · refine ⟨ws, sc, ?_, ic, hw, hw2⟩
    simp only [q_C, q_Var, q_evv, q_evo, q_evw, q_e1, q_e1k, q_e2, q_e2k, q_e2j, q_aNil, q_aCons, q_ack, q_acj, q_argv, q_argo, q_argw, q_keeps, q_keepsN, q_kpc, q_keepv, q_keepo, q_Tup, q_etk, q_etj, q_Lst, q_elk, q_elj, q_Call, q_If, q_ift, q_iff, q_tB, q_tbk, q_tTru, q_ttk, q_tAnd, q_takt, q_takf, q_tOr, q_tokt, q_tokf, q_tNot, q_tnk, q_tYes, q_And, q_ndk, q_ndt, q_ndf, q_Or, q_ork, q_ort, q_orf, q_Not, q_ntk, q_ntj, q_trN, q_trB, q_trI, q_trT, q_trR, q_trO, q_trW, q_Chain, q_chk, q_chj, q_chit, q_chif, q_sNil, q_sPass, q_sCons, q_sSet, q_ssv, q_sso, q_sOwn, q_sok, q_sHeap, q_shk, q_sFrz, q_sfj, q_sExpr, q_sxk, q_sRet, q_srv, q_sro, q_sRetOwn, q_roj, q_sRetN, q_sBreak, q_sCont, q_sIf, q_sift, q_siff, q_sApp, q_sapj, q_sapv, q_sapo, q_sExt, q_sexj, q_sexk, q_sexm, q_llo, q_llw, q_llr, q_sSetIx, q_sixv, q_sixo, q_sixj, q_sixl, q_sixm, q_sSetHp, q_hpv, q_hpo, q_hpj, q_hpl, q_hpm, q_hpn, q_sAugHp, q_agk, q_agj, q_agl, q_agm, q_agn, q_ago, q_agp, q_sUnp, q_unk, q_setc, q_setn, q_sPar2, q_p2v, q_p2o, q_p2jv, q_p2jo, q_sAug, q_auj, q_aul, q_aumv, q_aumo, q_sWhile, q_wht, q_whf, q_frk, q_forN, q_forC, q_flk, q_putN, q_putT, q_iok, q_ioj, q_svT, q_svR, q_svS, q_svO, q_seT, q_seR, q_seS, q_seO, q_seW, q_iView, q_ivw, q_ivv, q_iRng1, q_irk, q_Sl, q_slk1, q_slk2, q_slk3, q_ePN, q_ePS, q_epk, q_cutT, q_cutR, q_cutS, q_cutO, q_cutW, q_SlSt, q_stk1, q_stk2, q_stk3, q_revO, q_revR, q_revW, q_LR, q_lrk, q_lrj, q_iRng2, q_r2k, q_r2j, q_iRng3, q_r3k, q_r3j, q_r3i, q_sUnpL, q_ulk, q_ulj, q_lkO, q_lkR, q_lkW, q_lkT, q_sExtA, q_xaj, q_xak, q_xam, q_laO, q_laW, q_laR, q_laT, q_LR3, q_l3k, q_l3j, q_l3i, q_sSetSl, q_ssk2, q_ssj, q_ssl, q_ssm, q_ssn, opt_some, opt_none, EO.bind_ok, EO.bind_ex, EO.then_ok, EO.then_ex, SO.seq_nx, SO.seq_rt, SO.seq_bk, SO.seq_ct, SO.seq_ex, SO.turn_nx, SO.turn_ct, SO.turn_bk, SO.turn_rt, SO.turn_ex, add_ii, sub_ii, and_ii, or_ii, xor_ii, lt_ii, le_ii, gt_ii, ge_ii, max_ii, min_ii, neg_i, abs_i, int_i, eq_ii, ne_ii, len_tup, len_ro, len_own, len_view, list_tup, list_ro, list_scr, list_own, list_view, tuple_tup, tuple_ro, tuple_own, tuple_view, at0, at1, at2, at3, ix_tup, ix_ro, ix_own, ix_view, Option.map_some, line, List.getElem?_cons_zero, List.getElem?_cons_succ, List.getElem?_nil, List.set_cons_zero, List.set_cons_succ, List.set_nil, List.length_cons, List.length_nil, List.map_cons, List.map_nil, List.cons_append, List.nil_append, List.replicate, Bool.not_true, Bool.not_false, if_true, if_false, Bool.false_eq_true, reduceIte, Nat.reduceAdd, Nat.reduceSub, Nat.reduceLeDiff, Nat.reduceEqDiff, decide_true, decide_false, el, ec, h5]
    exact fin_len List.length_set
/-! ### what the law works out -/
theorem vals_range' (k : Nat) : upTo (k : Int) 16 = vNats (List.range' k 16) := upTo_map 16 k
theorem exp_row {h : Heap} {m k : Nat} {z : List Nat} (g : Wd 128 z) (hm : h[m]? = some (.lst (vNats z))) (hk : k < 8) {v0 v1 v2 y5 y6 : Option RV} :
    l__law_expected_2 [v0, v1, v2, some (.v (.int (k : Int))), some (.v (.obj m)), y5, y6] h = .nx [v0, v1, v2, some (.v (.int (k : Int))), some (.v (.obj m)), y5, y6] (h.set m (.lst (vNats (rowN z (16 * k))))) := by
  have hP : ∀ x, x ∈ List.range' (16 * k) 16 → x < 128 := fun x hx => by
    have := List.mem_range'_1.mp hx
    omega
  have hs := (stirred_ok g hm (P := List.range' (16 * k) 16) (by rw [List.length_range']) hP).1
  rw [← row_rp g (by omega), ← vals_range'] at hs
  have cm : CMul 16 (k : Int) := cmul_nat (a := 16) (b := k) (by decide) (by omega)
  have e1 : (16 : Int) * (k : Int) = ((16 * k : Nat) : Int) := by omega
  have e3 : (((16 * k : Nat) : Int) + 16 - ((16 * k : Nat) : Int)).toNat = 16 := by omega
  have b1 : -(2 ^ 62) ≤ ((16 * k : Nat) : Int) := by omega
  have b2 : ((16 * k : Nat) : Int) < 2 ^ 62 := by omega
  have b3 : -(2 ^ 62) ≤ ((16 * k : Nat) : Int) + 16 := by omega
  have b4 : ((16 * k : Nat) : Int) + 16 < 2 ^ 62 := by omega
  unfold l__law_expected_2
  simp only [q_C, q_Var, q_evv, q_evo, q_evw, q_e1, q_e1k, q_e2, q_e2k, q_e2j, q_aNil, q_aCons, q_ack, q_acj, q_argv, q_argo, q_argw, q_keeps, q_keepsN, q_kpc, q_keepv, q_keepo, q_Tup, q_etk, q_etj, q_Lst, q_elk, q_elj, q_Call, q_If, q_ift, q_iff, q_tB, q_tbk, q_tTru, q_ttk, q_tAnd, q_takt, q_takf, q_tOr, q_tokt, q_tokf, q_tNot, q_tnk, q_tYes, q_And, q_ndk, q_ndt, q_ndf, q_Or, q_ork, q_ort, q_orf, q_Not, q_ntk, q_ntj, q_trN, q_trB, q_trI, q_trT, q_trR, q_trO, q_trW, q_Chain, q_chk, q_chj, q_chit, q_chif, q_sNil, q_sPass, q_sCons, q_sSet, q_ssv, q_sso, q_sOwn, q_sok, q_sHeap, q_shk, q_sFrz, q_sfj, q_sExpr, q_sxk, q_sRet, q_srv, q_sro, q_sRetOwn, q_roj, q_sRetN, q_sBreak, q_sCont, q_sIf, q_sift, q_siff, q_sApp, q_sapj, q_sapv, q_sapo, q_sExt, q_sexj, q_sexk, q_sexm, q_llo, q_llw, q_llr, q_sSetIx, q_sixv, q_sixo, q_sixj, q_sixl, q_sixm, q_sSetHp, q_hpv, q_hpo, q_hpj, q_hpl, q_hpm, q_hpn, q_sAugHp, q_agk, q_agj, q_agl, q_agm, q_agn, q_ago, q_agp, q_sUnp, q_unk, q_setc, q_setn, q_sPar2, q_p2v, q_p2o, q_p2jv, q_p2jo, q_sAug, q_auj, q_aul, q_aumv, q_aumo, q_sWhile, q_wht, q_whf, q_frk, q_forN, q_forC, q_flk, q_putN, q_putT, q_iok, q_ioj, q_svT, q_svR, q_svS, q_svO, q_seT, q_seR, q_seS, q_seO, q_seW, q_iView, q_ivw, q_ivv, q_iRng1, q_irk, q_Sl, q_slk1, q_slk2, q_slk3, q_ePN, q_ePS, q_epk, q_cutT, q_cutR, q_cutS, q_cutO, q_cutW, q_SlSt, q_stk1, q_stk2, q_stk3, q_revO, q_revR, q_revW, q_LR, q_lrk, q_lrj, q_iRng2, q_r2k, q_r2j, q_iRng3, q_r3k, q_r3j, q_r3i, q_sUnpL, q_ulk, q_ulj, q_lkO, q_lkR, q_lkW, q_lkT, q_sExtA, q_xaj, q_xak, q_xam, q_laO, q_laW, q_laR, q_laT, q_LR3, q_l3k, q_l3j, q_l3i, q_sSetSl, q_ssk2, q_ssj, q_ssl, q_ssm, q_ssn, opt_some, opt_none, EO.bind_ok, EO.bind_ex, EO.then_ok, EO.then_ex, SO.seq_nx, SO.seq_rt, SO.seq_bk, SO.seq_ct, SO.seq_ex, SO.turn_nx, SO.turn_ct, SO.turn_bk, SO.turn_rt, SO.turn_ex, add_ii, sub_ii, and_ii, or_ii, xor_ii, lt_ii, le_ii, gt_ii, ge_ii, max_ii, min_ii, neg_i, abs_i, int_i, eq_ii, ne_ii, len_tup, len_ro, len_own, len_view, list_tup, list_ro, list_scr, list_own, list_view, tuple_tup, tuple_ro, tuple_own, tuple_view, at0, at1, at2, at3, ix_tup, ix_ro, ix_own, ix_view, Option.map_some, line, List.getElem?_cons_zero, List.getElem?_cons_succ, List.getElem?_nil, List.set_cons_zero, List.set_cons_succ, List.set_nil, List.length_cons, List.length_nil, List.map_cons, List.map_nil, List.cons_append, List.nil_append, List.replicate, Bool.not_true, Bool.not_false, if_true, if_false, Bool.false_eq_true, reduceIte, Nat.reduceAdd, Nat.reduceSub, Nat.reduceLeDiff, Nat.reduceEqDiff, decide_true, decide_false, mul_ii cm, e1, b1, b2, b3, b4, e3, and_self, hs]
theorem exp_rows {h : Heap} {m : Nat} {z : List Nat} (g : Wd 128 z) (hm : h[m]? = some (.lst (vNats z))) {v0 v1 v2 y3 y5 y6 : Option RV} :
    ∃ z3, sFor (.nm 3) (iRng1 (eC (.int 8))) l__law_expected_2 [v0, v1, v2, y3, some (.v (.obj m)), y5, y6] h = .nx [v0, v1, v2, z3, some (.v (.obj m)), y5, y6] (h.set m (.lst (vNats (rowsK z 8)))) ∧ Wd 128 (rowsK z 8) := by
  have hlt : m < h.length := (List.getElem?_eq_some_iff.mp hm).1
  have h0 : h = h.set m (.lst (vNats z)) := by
    refine List.ext_getElem? fun k => ?_
    by_cases hk : m = k
    · subst hk; rw [List.getElem?_set_self hlt, hm]
    · rw [List.getElem?_set_ne hk]
  obtain ⟨r2, h2, e, z3, rfl, rfl, gw⟩ := for_ok (g := .nm 3) (it := iRng1 (eC (.int 8))) (b := l__law_expected_2) (r := [v0, v1, v2, y3, some (.v (.obj m)), y5, y6]) (h := h) (h1 := h) (xs := upTo 0 8)
    (fun k r h' => ∃ z3, r = [v0, v1, v2, z3, some (.v (.obj m)), y5, y6] ∧ h' = h.set m (.lst (vNats (rowsK z k))) ∧ Wd 128 (rowsK z k)) (rng_ok (n := 8) rfl rfl (by decide)) ⟨_, rfl, h0, g⟩ fun k v r h' hk ⟨z3, e1, e2, gk⟩ => by
      subst e1 e2
      have hk8 : k < 8 := by
        have := (List.getElem?_eq_some_iff.mp hk).1
        rw [upTo_len] at this
        exact this
      rw [upTo_get 8 0 k hk8] at hk
      cases hk
      rw [Int.zero_add]
      exact ⟨_, rfl, _, _, .inl (exp_row gk (List.getElem?_set_self hlt) hk8), _, rfl, by rw [List.set_set]; rfl, rowN_wd gk (by omega)⟩
  exact ⟨z3, e, gw⟩
theorem add_ro {h : Heap} {xs ys : List Val} (c : xs.length + ys.length ≤ 16777216) : fAdd h (.v (.ro xs)) (.own ys) = some (.own (xs ++ ys)) := (if_pos c).trans (Eq.refl _)
theorem exp_places {h : Heap} {k : Nat} (hk : k < 8) {v0 v1 v2 v4 y6 : Option RV} :
    ∃ z6, sFor (.nm 6) (iRng1 (eC (.int 8))) l__law_expected_3 [v0, v1, v2, some (.v (.int (k : Int))), v4, some (.v (.ro [])), y6] h = .nx [v0, v1, v2, some (.v (.int (k : Int))), v4, some (.v (.ro (vNats (pl (2 * k) 8)))), z6] h := by
  obtain ⟨r2, h2, e, rfl, z6, rfl⟩ := for_ok (g := .nm 6) (it := iRng1 (eC (.int 8))) (b := l__law_expected_3) (r := [v0, v1, v2, some (.v (.int (k : Int))), v4, some (.v (.ro [])), y6]) (h := h) (h1 := h) (xs := upTo 0 8)
    (fun j r h' => h' = h ∧ ∃ z6, r = [v0, v1, v2, some (.v (.int (k : Int))), v4, some (.v (.ro (vNats (pl (2 * k) j)))), z6]) (rng_ok (n := 8) rfl rfl (by decide)) ⟨rfl, _, rfl⟩ fun j v r h' hj ⟨e1, z6, e2⟩ => by
      subst e1 e2
      have hj8 : j < 8 := by
        have := (List.getElem?_eq_some_iff.mp hj).1
        rw [upTo_len] at this
        exact this
      rw [upTo_get 8 0 j hj8] at hj
      cases hj
      rw [Int.zero_add]
      have c1 : CMul 16 (j : Int) := cmul_nat (a := 16) (b := j) (by decide) (by omega)
      have c2 : CMul 2 (k : Int) := cmul_nat (a := 2) (b := k) (by decide) (by omega)
      have ek : 16 * (j : Int) + 2 * (k : Int) = ((2 * k + 16 * j : Nat) : Int) := by omega
      have ek1 : ((2 * k + 16 * j : Nat) : Int) + 1 = ((2 * k + 16 * j + 1 : Nat) : Int) := by omega
      have hz : 2 * j + 2 ≤ 16777216 := by omega
      have ep : vNats (pl (2 * k) j) ++ [Val.int ((2 * k + 16 * j : Nat) : Int), .int ((2 * k + 16 * j + 1 : Nat) : Int)] = vNats (pl (2 * k) (j + 1)) := by
        show List.map _ _ ++ _ = List.map _ (pl (2 * k) j ++ [2 * k + 16 * j, 2 * k + 16 * j + 1])
        rw [List.map_append]
        rfl
      have ea : ∀ {h : Heap}, fAdd h (.v (.ro (vNats (pl (2 * k) j)))) (.own [Val.int ((2 * k + 16 * j : Nat) : Int), .int ((2 * k + 16 * j + 1 : Nat) : Int)]) = some (.own (vNats (pl (2 * k) (j + 1)))) := fun {h} => by
        rw [add_ro (by rw [nats_len, pl_len]; exact hz), ep]
      refine ⟨_, rfl, _, _, .inl ?_, rfl, some (.v (.int (j : Int))), rfl⟩
      unfold l__law_expected_3
      simp only [q_C, q_Var, q_evv, q_evo, q_evw, q_e1, q_e1k, q_e2, q_e2k, q_e2j, q_aNil, q_aCons, q_ack, q_acj, q_argv, q_argo, q_argw, q_keeps, q_keepsN, q_kpc, q_keepv, q_keepo, q_Tup, q_etk, q_etj, q_Lst, q_elk, q_elj, q_Call, q_If, q_ift, q_iff, q_tB, q_tbk, q_tTru, q_ttk, q_tAnd, q_takt, q_takf, q_tOr, q_tokt, q_tokf, q_tNot, q_tnk, q_tYes, q_And, q_ndk, q_ndt, q_ndf, q_Or, q_ork, q_ort, q_orf, q_Not, q_ntk, q_ntj, q_trN, q_trB, q_trI, q_trT, q_trR, q_trO, q_trW, q_Chain, q_chk, q_chj, q_chit, q_chif, q_sNil, q_sPass, q_sCons, q_sSet, q_ssv, q_sso, q_sOwn, q_sok, q_sHeap, q_shk, q_sFrz, q_sfj, q_sExpr, q_sxk, q_sRet, q_srv, q_sro, q_sRetOwn, q_roj, q_sRetN, q_sBreak, q_sCont, q_sIf, q_sift, q_siff, q_sApp, q_sapj, q_sapv, q_sapo, q_sExt, q_sexj, q_sexk, q_sexm, q_llo, q_llw, q_llr, q_sSetIx, q_sixv, q_sixo, q_sixj, q_sixl, q_sixm, q_sSetHp, q_hpv, q_hpo, q_hpj, q_hpl, q_hpm, q_hpn, q_sAugHp, q_agk, q_agj, q_agl, q_agm, q_agn, q_ago, q_agp, q_sUnp, q_unk, q_setc, q_setn, q_sPar2, q_p2v, q_p2o, q_p2jv, q_p2jo, q_sAug, q_auj, q_aul, q_aumv, q_aumo, q_sWhile, q_wht, q_whf, q_frk, q_forN, q_forC, q_flk, q_putN, q_putT, q_iok, q_ioj, q_svT, q_svR, q_svS, q_svO, q_seT, q_seR, q_seS, q_seO, q_seW, q_iView, q_ivw, q_ivv, q_iRng1, q_irk, q_Sl, q_slk1, q_slk2, q_slk3, q_ePN, q_ePS, q_epk, q_cutT, q_cutR, q_cutS, q_cutO, q_cutW, q_SlSt, q_stk1, q_stk2, q_stk3, q_revO, q_revR, q_revW, q_LR, q_lrk, q_lrj, q_iRng2, q_r2k, q_r2j, q_iRng3, q_r3k, q_r3j, q_r3i, q_sUnpL, q_ulk, q_ulj, q_lkO, q_lkR, q_lkW, q_lkT, q_sExtA, q_xaj, q_xak, q_xam, q_laO, q_laW, q_laR, q_laT, q_LR3, q_l3k, q_l3j, q_l3i, q_sSetSl, q_ssk2, q_ssj, q_ssl, q_ssm, q_ssn, opt_some, opt_none, EO.bind_ok, EO.bind_ex, EO.then_ok, EO.then_ex, SO.seq_nx, SO.seq_rt, SO.seq_bk, SO.seq_ct, SO.seq_ex, SO.turn_nx, SO.turn_ct, SO.turn_bk, SO.turn_rt, SO.turn_ex, add_ii, sub_ii, and_ii, or_ii, xor_ii, lt_ii, le_ii, gt_ii, ge_ii, max_ii, min_ii, neg_i, abs_i, int_i, eq_ii, ne_ii, len_tup, len_ro, len_own, len_view, list_tup, list_ro, list_scr, list_own, list_view, tuple_tup, tuple_ro, tuple_own, tuple_view, at0, at1, at2, at3, ix_tup, ix_ro, ix_own, ix_view, Option.map_some, line, List.getElem?_cons_zero, List.getElem?_cons_succ, List.getElem?_nil, List.set_cons_zero, List.set_cons_succ, List.set_nil, List.length_cons, List.length_nil, List.map_cons, List.map_nil, List.cons_append, List.nil_append, List.replicate, Bool.not_true, Bool.not_false, if_true, if_false, Bool.false_eq_true, reduceIte, Nat.reduceAdd, Nat.reduceSub, Nat.reduceLeDiff, Nat.reduceEqDiff, decide_true, decide_false, mul_ii c1, mul_ii c2, ek, ek1, ea]
  exact ⟨_, e⟩
theorem exp_col {h : Heap} {m k : Nat} {z : List Nat} (g : Wd 128 z) (hm : h[m]? = some (.lst (vNats z))) (hk : k < 8) {v0 v1 v2 y5 y6 : Option RV} :
    ∃ z5 z6, l__law_expected_4 [v0, v1, v2, some (.v (.int (k : Int))), some (.v (.obj m)), y5, y6] h = .nx [v0, v1, v2, some (.v (.int (k : Int))), some (.v (.obj m)), z5, z6] (h.set m (.lst (vNats (colN z (2 * k))))) := by
  obtain ⟨hnd, hlt⟩ := pl_ok (k := 2 * k) ⟨k, hk, rfl⟩
  have hs := (stirred_ok g hm (P := pl (2 * k) 8) (pl_len _ _) hlt).1
  rw [← colN_eq g ⟨k, hk, rfl⟩] at hs
  obtain ⟨z6, el⟩ := exp_places (h := h) hk (v0 := v0) (v1 := v1) (v2 := v2) (v4 := some (.v (.obj m))) (y6 := y6)
  refine ⟨some (.v (.ro (vNats (pl (2 * k) 8)))), z6, ?_⟩
  unfold l__law_expected_4
  simp only [q_C, q_Var, q_evv, q_evo, q_evw, q_e1, q_e1k, q_e2, q_e2k, q_e2j, q_aNil, q_aCons, q_ack, q_acj, q_argv, q_argo, q_argw, q_keeps, q_keepsN, q_kpc, q_keepv, q_keepo, q_Tup, q_etk, q_etj, q_Lst, q_elk, q_elj, q_Call, q_If, q_ift, q_iff, q_tB, q_tbk, q_tTru, q_ttk, q_tAnd, q_takt, q_takf, q_tOr, q_tokt, q_tokf, q_tNot, q_tnk, q_tYes, q_And, q_ndk, q_ndt, q_ndf, q_Or, q_ork, q_ort, q_orf, q_Not, q_ntk, q_ntj, q_trN, q_trB, q_trI, q_trT, q_trR, q_trO, q_trW, q_Chain, q_chk, q_chj, q_chit, q_chif, q_sNil, q_sPass, q_sCons, q_sSet, q_ssv, q_sso, q_sOwn, q_sok, q_sHeap, q_shk, q_sFrz, q_sfj, q_sExpr, q_sxk, q_sRet, q_srv, q_sro, q_sRetOwn, q_roj, q_sRetN, q_sBreak, q_sCont, q_sIf, q_sift, q_siff, q_sApp, q_sapj, q_sapv, q_sapo, q_sExt, q_sexj, q_sexk, q_sexm, q_llo, q_llw, q_llr, q_sSetIx, q_sixv, q_sixo, q_sixj, q_sixl, q_sixm, q_sSetHp, q_hpv, q_hpo, q_hpj, q_hpl, q_hpm, q_hpn, q_sAugHp, q_agk, q_agj, q_agl, q_agm, q_agn, q_ago, q_agp, q_sUnp, q_unk, q_setc, q_setn, q_sPar2, q_p2v, q_p2o, q_p2jv, q_p2jo, q_sAug, q_auj, q_aul, q_aumv, q_aumo, q_sWhile, q_wht, q_whf, q_frk, q_forN, q_forC, q_flk, q_putN, q_putT, q_iok, q_ioj, q_svT, q_svR, q_svS, q_svO, q_seT, q_seR, q_seS, q_seO, q_seW, q_iView, q_ivw, q_ivv, q_iRng1, q_irk, q_Sl, q_slk1, q_slk2, q_slk3, q_ePN, q_ePS, q_epk, q_cutT, q_cutR, q_cutS, q_cutO, q_cutW, q_SlSt, q_stk1, q_stk2, q_stk3, q_revO, q_revR, q_revW, q_LR, q_lrk, q_lrj, q_iRng2, q_r2k, q_r2j, q_iRng3, q_r3k, q_r3j, q_r3i, q_sUnpL, q_ulk, q_ulj, q_lkO, q_lkR, q_lkW, q_lkT, q_sExtA, q_xaj, q_xak, q_xam, q_laO, q_laW, q_laR, q_laT, q_LR3, q_l3k, q_l3j, q_l3i, q_sSetSl, q_ssk2, q_ssj, q_ssl, q_ssm, q_ssn, opt_some, opt_none, EO.bind_ok, EO.bind_ex, EO.then_ok, EO.then_ex, SO.seq_nx, SO.seq_rt, SO.seq_bk, SO.seq_ct, SO.seq_ex, SO.turn_nx, SO.turn_ct, SO.turn_bk, SO.turn_rt, SO.turn_ex, add_ii, sub_ii, and_ii, or_ii, xor_ii, lt_ii, le_ii, gt_ii, ge_ii, max_ii, min_ii, neg_i, abs_i, int_i, eq_ii, ne_ii, len_tup, len_ro, len_own, len_view, list_tup, list_ro, list_scr, list_own, list_view, tuple_tup, tuple_ro, tuple_own, tuple_view, at0, at1, at2, at3, ix_tup, ix_ro, ix_own, ix_view, Option.map_some, line, List.getElem?_cons_zero, List.getElem?_cons_succ, List.getElem?_nil, List.set_cons_zero, List.set_cons_succ, List.set_nil, List.length_cons, List.length_nil, List.map_cons, List.map_nil, List.cons_append, List.nil_append, List.replicate, Bool.not_true, Bool.not_false, if_true, if_false, Bool.false_eq_true, reduceIte, Nat.reduceAdd, Nat.reduceSub, Nat.reduceLeDiff, Nat.reduceEqDiff, decide_true, decide_false, el, hs]
theorem exp_cols {h : Heap} {m : Nat} {z : List Nat} (g : Wd 128 z) (hm : h[m]? = some (.lst (vNats z))) {v0 v1 v2 y3 y5 y6 : Option RV} :
    ∃ z3 z5 z6, sFor (.nm 3) (iRng1 (eC (.int 8))) l__law_expected_4 [v0, v1, v2, y3, some (.v (.obj m)), y5, y6] h = .nx [v0, v1, v2, z3, some (.v (.obj m)), z5, z6] (h.set m (.lst (vNats (colsK z 8)))) ∧ Wd 128 (colsK z 8) := by
  have hlt : m < h.length := (List.getElem?_eq_some_iff.mp hm).1
  have h0 : h = h.set m (.lst (vNats z)) := by
    refine List.ext_getElem? fun k => ?_
    by_cases hk : m = k
    · subst hk; rw [List.getElem?_set_self hlt, hm]
    · rw [List.getElem?_set_ne hk]
  obtain ⟨r2, h2, e, z3, z5, z6, rfl, rfl, gw⟩ := for_ok (g := .nm 3) (it := iRng1 (eC (.int 8))) (b := l__law_expected_4) (r := [v0, v1, v2, y3, some (.v (.obj m)), y5, y6]) (h := h) (h1 := h) (xs := upTo 0 8)
    (fun k r h' => ∃ z3 z5 z6, r = [v0, v1, v2, z3, some (.v (.obj m)), z5, z6] ∧ h' = h.set m (.lst (vNats (colsK z k))) ∧ Wd 128 (colsK z k)) (rng_ok (n := 8) rfl rfl (by decide)) ⟨_, _, _, rfl, h0, g⟩ fun k v r h' hk ⟨z3, z5, z6, e1, e2, gk⟩ => by
      subst e1 e2
      have hk8 : k < 8 := by
        have := (List.getElem?_eq_some_iff.mp hk).1
        rw [upTo_len] at this
        exact this
      rw [upTo_get 8 0 k hk8] at hk
      cases hk
      rw [Int.zero_add]
      obtain ⟨w5, w6, ec⟩ := exp_col gk (List.getElem?_set_self hlt) hk8 (v0 := v0) (v1 := v1) (v2 := v2) (y5 := z5) (y6 := z6)
      exact ⟨_, rfl, _, _, .inl ec, _, _, _, rfl, by rw [List.set_set]; rfl, colN_wd gk ⟨k, hk8, rfl⟩⟩
  exact ⟨z3, z5, z6, e, gw⟩
/-- the k-th words, xored -/
def fX (a b : List Nat) (v : Val) : Val := match v with
  | .int k => .int (a.getD k.toNat 0 ^^^ b.getD k.toNat 0 : Nat)
  | _ => .none
theorem fX_map {a b : List Nat} (ha : a.length = 128) (hb : b.length = 128) : (upTo 0 128).map (fX a b) = vNats (xorl a b) := by
  have e : upTo 0 128 = vNats (List.range' 0 128) := upTo_map 128 0
  rw [e]
  show List.map _ (List.map _ _) = List.map _ _
  rw [List.map_map]
  refine List.ext_getElem (by unfold xorl; rw [List.length_map, List.length_map, List.length_range', List.length_zipWith, ha, hb]; rfl) fun i h1 h2 => ?_
  rw [List.length_map, List.length_range'] at h1
  rw [List.getElem_map, List.getElem_range', List.getElem_map]
  unfold xorl
  rw [List.getElem_zipWith]
  show Val.int ((a.getD (((0 + 1 * i : Nat) : Int).toNat) 0 ^^^ b.getD (((0 + 1 * i : Nat) : Int).toNat) 0 : Nat) : Int) = _
  have : ((0 + 1 * i : Nat) : Int).toNat = i := by omega
  rw [this, p_getD (by omega), p_getD (by omega)]
theorem exp_ok {h : Heap} {x y : List Nat} (w0 : Wd 128 x) (w1 : Wd 128 y) : f__law_expected [.v (.ro (vNats x)), .v (.ro (vNats y))] h = .ok (.v (.tup (vNats (joinN x y)))) h := by
  unfold f__law_expected
  rw [mkFn_eq]
  unfold b__law_expected
  have gr := xor_wd w0 w1
  have er : eLc [3] (.nm 3) (iRng1 (eC (.int 128))) tYes c__law_expected_1 [some (.v (.ro (vNats x))), some (.v (.ro (vNats y))), none, none, none, none, none] h = .ok (.own (vNats (xorl x y))) h := by
    rw [← fX_map w0.1 w1.1]
    refine lc_map (fX x y) (dep := []) (rng_ok (n := 128) rfl rfl (by decide)) (by rw [upTo_len]; decide) fun v hv => ?_
    obtain ⟨i, hi, rfl⟩ := upTo_mem _ _ _ hv
    rw [Int.zero_add]
    refine ⟨_, rfl, ?_⟩
    unfold c__law_expected_1
    show e2 fXor (e2 fIx (eVar 0) (eVar 3)) (e2 fIx (eVar 1) (eVar 3)) [some (.v (.ro (vNats x))), some (.v (.ro (vNats y))), none, some (.v (.int (i : Int))), none, none, none] h = EO.ok (.v (.int (x.getD i 0 ^^^ y.getD i 0 : Nat))) h
    simp only [q_C, q_Var, q_evv, q_evo, q_evw, q_e1, q_e1k, q_e2, q_e2k, q_e2j, q_aNil, q_aCons, q_ack, q_acj, q_argv, q_argo, q_argw, q_keeps, q_keepsN, q_kpc, q_keepv, q_keepo, q_Tup, q_etk, q_etj, q_Lst, q_elk, q_elj, q_Call, q_If, q_ift, q_iff, q_tB, q_tbk, q_tTru, q_ttk, q_tAnd, q_takt, q_takf, q_tOr, q_tokt, q_tokf, q_tNot, q_tnk, q_tYes, q_And, q_ndk, q_ndt, q_ndf, q_Or, q_ork, q_ort, q_orf, q_Not, q_ntk, q_ntj, q_trN, q_trB, q_trI, q_trT, q_trR, q_trO, q_trW, q_Chain, q_chk, q_chj, q_chit, q_chif, q_sNil, q_sPass, q_sCons, q_sSet, q_ssv, q_sso, q_sOwn, q_sok, q_sHeap, q_shk, q_sFrz, q_sfj, q_sExpr, q_sxk, q_sRet, q_srv, q_sro, q_sRetOwn, q_roj, q_sRetN, q_sBreak, q_sCont, q_sIf, q_sift, q_siff, q_sApp, q_sapj, q_sapv, q_sapo, q_sExt, q_sexj, q_sexk, q_sexm, q_llo, q_llw, q_llr, q_sSetIx, q_sixv, q_sixo, q_sixj, q_sixl, q_sixm, q_sSetHp, q_hpv, q_hpo, q_hpj, q_hpl, q_hpm, q_hpn, q_sAugHp, q_agk, q_agj, q_agl, q_agm, q_agn, q_ago, q_agp, q_sUnp, q_unk, q_setc, q_setn, q_sPar2, q_p2v, q_p2o, q_p2jv, q_p2jo, q_sAug, q_auj, q_aul, q_aumv, q_aumo, q_sWhile, q_wht, q_whf, q_frk, q_forN, q_forC, q_flk, q_putN, q_putT, q_iok, q_ioj, q_svT, q_svR, q_svS, q_svO, q_seT, q_seR, q_seS, q_seO, q_seW, q_iView, q_ivw, q_ivv, q_iRng1, q_irk, q_Sl, q_slk1, q_slk2, q_slk3, q_ePN, q_ePS, q_epk, q_cutT, q_cutR, q_cutS, q_cutO, q_cutW, q_SlSt, q_stk1, q_stk2, q_stk3, q_revO, q_revR, q_revW, q_LR, q_lrk, q_lrj, q_iRng2, q_r2k, q_r2j, q_iRng3, q_r3k, q_r3j, q_r3i, q_sUnpL, q_ulk, q_ulj, q_lkO, q_lkR, q_lkW, q_lkT, q_sExtA, q_xaj, q_xak, q_xam, q_laO, q_laW, q_laR, q_laT, q_LR3, q_l3k, q_l3j, q_l3i, q_sSetSl, q_ssk2, q_ssj, q_ssl, q_ssm, q_ssn, opt_some, opt_none, EO.bind_ok, EO.bind_ex, EO.then_ok, EO.then_ex, SO.seq_nx, SO.seq_rt, SO.seq_bk, SO.seq_ct, SO.seq_ex, SO.turn_nx, SO.turn_ct, SO.turn_bk, SO.turn_rt, SO.turn_ex, add_ii, sub_ii, and_ii, or_ii, xor_ii, lt_ii, le_ii, gt_ii, ge_ii, max_ii, min_ii, neg_i, abs_i, int_i, eq_ii, ne_ii, len_tup, len_ro, len_own, len_view, list_tup, list_ro, list_scr, list_own, list_view, tuple_tup, tuple_ro, tuple_own, tuple_view, at0, at1, at2, at3, ix_tup, ix_ro, ix_own, ix_view, Option.map_some, line, List.getElem?_cons_zero, List.getElem?_cons_succ, List.getElem?_nil, List.set_cons_zero, List.set_cons_succ, List.set_nil, List.length_cons, List.length_nil, List.map_cons, List.map_nil, List.cons_append, List.nil_append, List.replicate, Bool.not_true, Bool.not_false, if_true, if_false, Bool.false_eq_true, reduceIte, Nat.reduceAdd, Nat.reduceSub, Nat.reduceLeDiff, Nat.reduceEqDiff, decide_true, decide_false, wd_at w0 hi, wd_at w1 hi, n_xor]
  have hget : ∀ us : List Nat, (h ++ [HObj.lst (vNats us)])[h.length]? = some (.lst (vNats us)) := fun us => by
    rw [List.getElem?_append_right (Nat.le_refl _), Nat.sub_self]
    rfl
  have hset : ∀ us vs : List Nat, (h ++ [HObj.lst (vNats us)]).set h.length (.lst (vNats vs)) = h ++ [HObj.lst (vNats vs)] := fun us vs => by
    rw [List.set_append_right _ _ (Nat.le_refl _), Nat.sub_self]
    rfl
  obtain ⟨z3, l1, gw1⟩ := exp_rows gr (hget _) (v0 := some (.v (.ro (vNats x)))) (v1 := some (.v (.ro (vNats y)))) (v2 := some (.v (.ro (vNats (xorl x y))))) (y3 := none) (y5 := none) (y6 := none)
  rw [hset] at l1
  obtain ⟨u3, u5, u6, l2, gw2⟩ := exp_cols gw1 (hget _) (v0 := some (.v (.ro (vNats x)))) (v1 := some (.v (.ro (vNats y)))) (v2 := some (.v (.ro (vNats (xorl x y))))) (y3 := z3) (y5 := none) (y6 := none)
  rw [hset] at l2
  have es : eLc [3] (.nm 3) (iRng1 (eC (.int 128))) tYes c__law_expected_5 [some (.v (.ro (vNats x))), some (.v (.ro (vNats y))), some (.v (.ro (vNats (xorl x y)))), u3, some (.v (.obj h.length)), u5, u6] (h ++ [HObj.lst (vNats (colsK (rowsK (xorl x y) 8) 8))]) = .ok (.own (vNats (joinN x y))) (h ++ [HObj.lst (vNats (colsK (rowsK (xorl x y) 8) 8))]) := by
    unfold joinN
    rw [← fX_map gw2.1 gr.1]
    refine lc_map (fX _ _) (dep := []) (rng_ok (n := 128) rfl rfl (by decide)) (by rw [upTo_len]; decide) fun v hv => ?_
    obtain ⟨i, hi, rfl⟩ := upTo_mem _ _ _ hv
    rw [Int.zero_add]
    refine ⟨_, rfl, ?_⟩
    unfold c__law_expected_5
    show e2 fXor (e2 fIx (eVar 4) (eVar 3)) (e2 fIx (eVar 2) (eVar 3)) [some (.v (.ro (vNats x))), some (.v (.ro (vNats y))), some (.v (.ro (vNats (xorl x y)))), some (.v (.int (i : Int))), some (.v (.obj h.length)), u5, u6] _ = EO.ok (.v (.int ((colsK (rowsK (xorl x y) 8) 8).getD i 0 ^^^ (xorl x y).getD i 0 : Nat))) _
    simp only [q_C, q_Var, q_evv, q_evo, q_evw, q_e1, q_e1k, q_e2, q_e2k, q_e2j, q_aNil, q_aCons, q_ack, q_acj, q_argv, q_argo, q_argw, q_keeps, q_keepsN, q_kpc, q_keepv, q_keepo, q_Tup, q_etk, q_etj, q_Lst, q_elk, q_elj, q_Call, q_If, q_ift, q_iff, q_tB, q_tbk, q_tTru, q_ttk, q_tAnd, q_takt, q_takf, q_tOr, q_tokt, q_tokf, q_tNot, q_tnk, q_tYes, q_And, q_ndk, q_ndt, q_ndf, q_Or, q_ork, q_ort, q_orf, q_Not, q_ntk, q_ntj, q_trN, q_trB, q_trI, q_trT, q_trR, q_trO, q_trW, q_Chain, q_chk, q_chj, q_chit, q_chif, q_sNil, q_sPass, q_sCons, q_sSet, q_ssv, q_sso, q_sOwn, q_sok, q_sHeap, q_shk, q_sFrz, q_sfj, q_sExpr, q_sxk, q_sRet, q_srv, q_sro, q_sRetOwn, q_roj, q_sRetN, q_sBreak, q_sCont, q_sIf, q_sift, q_siff, q_sApp, q_sapj, q_sapv, q_sapo, q_sExt, q_sexj, q_sexk, q_sexm, q_llo, q_llw, q_llr, q_sSetIx, q_sixv, q_sixo, q_sixj, q_sixl, q_sixm, q_sSetHp, q_hpv, q_hpo, q_hpj, q_hpl, q_hpm, q_hpn, q_sAugHp, q_agk, q_agj, q_agl, q_agm, q_agn, q_ago, q_agp, q_sUnp, q_unk, q_setc, q_setn, q_sPar2, q_p2v, q_p2o, q_p2jv, q_p2jo, q_sAug, q_auj, q_aul, q_aumv, q_aumo, q_sWhile, q_wht, q_whf, q_frk, q_forN, q_forC, q_flk, q_putN, q_putT, q_iok, q_ioj, q_svT, q_svR, q_svS, q_svO, q_seT, q_seR, q_seS, q_seO, q_seW, q_iView, q_ivw, q_ivv, q_iRng1, q_irk, q_Sl, q_slk1, q_slk2, q_slk3, q_ePN, q_ePS, q_epk, q_cutT, q_cutR, q_cutS, q_cutO, q_cutW, q_SlSt, q_stk1, q_stk2, q_stk3, q_revO, q_revR, q_revW, q_LR, q_lrk, q_lrj, q_iRng2, q_r2k, q_r2j, q_iRng3, q_r3k, q_r3j, q_r3i, q_sUnpL, q_ulk, q_ulj, q_lkO, q_lkR, q_lkW, q_lkT, q_sExtA, q_xaj, q_xak, q_xam, q_laO, q_laW, q_laR, q_laT, q_LR3, q_l3k, q_l3j, q_l3i, q_sSetSl, q_ssk2, q_ssj, q_ssl, q_ssm, q_ssn, opt_some, opt_none, EO.bind_ok, EO.bind_ex, EO.then_ok, EO.then_ex, SO.seq_nx, SO.seq_rt, SO.seq_bk, SO.seq_ct, SO.seq_ex, SO.turn_nx, SO.turn_ct, SO.turn_bk, SO.turn_rt, SO.turn_ex, add_ii, sub_ii, and_ii, or_ii, xor_ii, lt_ii, le_ii, gt_ii, ge_ii, max_ii, min_ii, neg_i, abs_i, int_i, eq_ii, ne_ii, len_tup, len_ro, len_own, len_view, list_tup, list_ro, list_scr, list_own, list_view, tuple_tup, tuple_ro, tuple_own, tuple_view, at0, at1, at2, at3, ix_tup, ix_ro, ix_own, ix_view, Option.map_some, line, List.getElem?_cons_zero, List.getElem?_cons_succ, List.getElem?_nil, List.set_cons_zero, List.set_cons_succ, List.set_nil, List.length_cons, List.length_nil, List.map_cons, List.map_nil, List.cons_append, List.nil_append, List.replicate, Bool.not_true, Bool.not_false, if_true, if_false, Bool.false_eq_true, reduceIte, Nat.reduceAdd, Nat.reduceSub, Nat.reduceLeDiff, Nat.reduceEqDiff, decide_true, decide_false, ix_obj (hget _), wd_at gw2 hi, wd_at gr hi, n_xor]
  generalize joinN x y = us at *
  generalize colsK (rowsK (xorl x y) 8) 8 = cs at *
  generalize rowsK (xorl x y) 8 = rs at *
  generalize xorl x y = qs at *
  simp only [q_C, q_Var, q_evv, q_evo, q_evw, q_e1, q_e1k, q_e2, q_e2k, q_e2j, q_aNil, q_aCons, q_ack, q_acj, q_argv, q_argo, q_argw, q_keeps, q_keepsN, q_kpc, q_keepv, q_keepo, q_Tup, q_etk, q_etj, q_Lst, q_elk, q_elj, q_Call, q_If, q_ift, q_iff, q_tB, q_tbk, q_tTru, q_ttk, q_tAnd, q_takt, q_takf, q_tOr, q_tokt, q_tokf, q_tNot, q_tnk, q_tYes, q_And, q_ndk, q_ndt, q_ndf, q_Or, q_ork, q_ort, q_orf, q_Not, q_ntk, q_ntj, q_trN, q_trB, q_trI, q_trT, q_trR, q_trO, q_trW, q_Chain, q_chk, q_chj, q_chit, q_chif, q_sNil, q_sPass, q_sCons, q_sSet, q_ssv, q_sso, q_sOwn, q_sok, q_sHeap, q_shk, q_sFrz, q_sfj, q_sExpr, q_sxk, q_sRet, q_srv, q_sro, q_sRetOwn, q_roj, q_sRetN, q_sBreak, q_sCont, q_sIf, q_sift, q_siff, q_sApp, q_sapj, q_sapv, q_sapo, q_sExt, q_sexj, q_sexk, q_sexm, q_llo, q_llw, q_llr, q_sSetIx, q_sixv, q_sixo, q_sixj, q_sixl, q_sixm, q_sSetHp, q_hpv, q_hpo, q_hpj, q_hpl, q_hpm, q_hpn, q_sAugHp, q_agk, q_agj, q_agl, q_agm, q_agn, q_ago, q_agp, q_sUnp, q_unk, q_setc, q_setn, q_sPar2, q_p2v, q_p2o, q_p2jv, q_p2jo, q_sAug, q_auj, q_aul, q_aumv, q_aumo, q_sWhile, q_wht, q_whf, q_frk, q_forN, q_forC, q_flk, q_putN, q_putT, q_iok, q_ioj, q_svT, q_svR, q_svS, q_svO, q_seT, q_seR, q_seS, q_seO, q_seW, q_iView, q_ivw, q_ivv, q_iRng1, q_irk, q_Sl, q_slk1, q_slk2, q_slk3, q_ePN, q_ePS, q_epk, q_cutT, q_cutR, q_cutS, q_cutO, q_cutW, q_SlSt, q_stk1, q_stk2, q_stk3, q_revO, q_revR, q_revW, q_LR, q_lrk, q_lrj, q_iRng2, q_r2k, q_r2j, q_iRng3, q_r3k, q_r3j, q_r3i, q_sUnpL, q_ulk, q_ulj, q_lkO, q_lkR, q_lkW, q_lkT, q_sExtA, q_xaj, q_xak, q_xam, q_laO, q_laW, q_laR, q_laT, q_LR3, q_l3k, q_l3j, q_l3i, q_sSetSl, q_ssk2, q_ssj, q_ssl, q_ssm, q_ssn, opt_some, opt_none, EO.bind_ok, EO.bind_ex, EO.then_ok, EO.then_ex, SO.seq_nx, SO.seq_rt, SO.seq_bk, SO.seq_ct, SO.seq_ex, SO.turn_nx, SO.turn_ct, SO.turn_bk, SO.turn_rt, SO.turn_ex, add_ii, sub_ii, and_ii, or_ii, xor_ii, lt_ii, le_ii, gt_ii, ge_ii, max_ii, min_ii, neg_i, abs_i, int_i, eq_ii, ne_ii, len_tup, len_ro, len_own, len_view, list_tup, list_ro, list_scr, list_own, list_view, tuple_tup, tuple_ro, tuple_own, tuple_view, at0, at1, at2, at3, ix_tup, ix_ro, ix_own, ix_view, Option.map_some, line, List.getElem?_cons_zero, List.getElem?_cons_succ, List.getElem?_nil, List.set_cons_zero, List.set_cons_succ, List.set_nil, List.length_cons, List.length_nil, List.map_cons, List.map_nil, List.cons_append, List.nil_append, List.replicate, Bool.not_true, Bool.not_false, if_true, if_false, Bool.false_eq_true, reduceIte, Nat.reduceAdd, Nat.reduceSub, Nat.reduceLeDiff, Nat.reduceEqDiff, decide_true, decide_false, er, l1, l2, es]
  exact fin_new (under_tup _ us)
/-! ### the law -/
theorem join2_ok {h : Heap} {v0 v1 : RV} {x y : List Nat} (g0 : Giv v0 x) (g1 : Giv v1 y) (w0 : Wd 128 x) (w1 : Wd 128 y) : f_join_blocks2 [v0, v1] h = .ok (.v (.tup (vNats (joinN x y)))) h := by
  unfold f_join_blocks2
  rw [mkFn_eq]
  unfold b_join_blocks2
  have e := join_ok (h := h) g0 g1 w0 w1
  simp only [q_C, q_Var, q_evv, q_evo, q_evw, q_e1, q_e1k, q_e2, q_e2k, q_e2j, q_aNil, q_aCons, q_ack, q_acj, q_argv, q_argo, q_argw, q_keeps, q_keepsN, q_kpc, q_keepv, q_keepo, q_Tup, q_etk, q_etj, q_Lst, q_elk, q_elj, q_Call, q_If, q_ift, q_iff, q_tB, q_tbk, q_tTru, q_ttk, q_tAnd, q_takt, q_takf, q_tOr, q_tokt, q_tokf, q_tNot, q_tnk, q_tYes, q_And, q_ndk, q_ndt, q_ndf, q_Or, q_ork, q_ort, q_orf, q_Not, q_ntk, q_ntj, q_trN, q_trB, q_trI, q_trT, q_trR, q_trO, q_trW, q_Chain, q_chk, q_chj, q_chit, q_chif, q_sNil, q_sPass, q_sCons, q_sSet, q_ssv, q_sso, q_sOwn, q_sok, q_sHeap, q_shk, q_sFrz, q_sfj, q_sExpr, q_sxk, q_sRet, q_srv, q_sro, q_sRetOwn, q_roj, q_sRetN, q_sBreak, q_sCont, q_sIf, q_sift, q_siff, q_sApp, q_sapj, q_sapv, q_sapo, q_sExt, q_sexj, q_sexk, q_sexm, q_llo, q_llw, q_llr, q_sSetIx, q_sixv, q_sixo, q_sixj, q_sixl, q_sixm, q_sSetHp, q_hpv, q_hpo, q_hpj, q_hpl, q_hpm, q_hpn, q_sAugHp, q_agk, q_agj, q_agl, q_agm, q_agn, q_ago, q_agp, q_sUnp, q_unk, q_setc, q_setn, q_sPar2, q_p2v, q_p2o, q_p2jv, q_p2jo, q_sAug, q_auj, q_aul, q_aumv, q_aumo, q_sWhile, q_wht, q_whf, q_frk, q_forN, q_forC, q_flk, q_putN, q_putT, q_iok, q_ioj, q_svT, q_svR, q_svS, q_svO, q_seT, q_seR, q_seS, q_seO, q_seW, q_iView, q_ivw, q_ivv, q_iRng1, q_irk, q_Sl, q_slk1, q_slk2, q_slk3, q_ePN, q_ePS, q_epk, q_cutT, q_cutR, q_cutS, q_cutO, q_cutW, q_SlSt, q_stk1, q_stk2, q_stk3, q_revO, q_revR, q_revW, q_LR, q_lrk, q_lrj, q_iRng2, q_r2k, q_r2j, q_iRng3, q_r3k, q_r3j, q_r3i, q_sUnpL, q_ulk, q_ulj, q_lkO, q_lkR, q_lkW, q_lkT, q_sExtA, q_xaj, q_xak, q_xam, q_laO, q_laW, q_laR, q_laT, q_LR3, q_l3k, q_l3j, q_l3i, q_sSetSl, q_ssk2, q_ssj, q_ssl, q_ssm, q_ssn, opt_some, opt_none, EO.bind_ok, EO.bind_ex, EO.then_ok, EO.then_ex, SO.seq_nx, SO.seq_rt, SO.seq_bk, SO.seq_ct, SO.seq_ex, SO.turn_nx, SO.turn_ct, SO.turn_bk, SO.turn_rt, SO.turn_ex, add_ii, sub_ii, and_ii, or_ii, xor_ii, lt_ii, le_ii, gt_ii, ge_ii, max_ii, min_ii, neg_i, abs_i, int_i, eq_ii, ne_ii, len_tup, len_ro, len_own, len_view, list_tup, list_ro, list_scr, list_own, list_view, tuple_tup, tuple_ro, tuple_own, tuple_view, at0, at1, at2, at3, ix_tup, ix_ro, ix_own, ix_view, Option.map_some, line, List.getElem?_cons_zero, List.getElem?_cons_succ, List.getElem?_nil, List.set_cons_zero, List.set_cons_succ, List.set_nil, List.length_cons, List.length_nil, List.map_cons, List.map_nil, List.cons_append, List.nil_append, List.replicate, Bool.not_true, Bool.not_false, if_true, if_false, Bool.false_eq_true, reduceIte, Nat.reduceAdd, Nat.reduceSub, Nat.reduceLeDiff, Nat.reduceEqDiff, decide_true, decide_false, giv_rd g0, giv_rd g1, giv_arg g0, giv_arg g1, e]
  exact fin_self
theorem eq_same_t {h : Heap} {us : List Nat} : fEq false h (.v (.tup (vNats us))) (.v (.tup (vNats us))) = some (.v (.bool true)) := by
  rw [vNats_ints, eq_tt]
  simp
theorem ne_same_t {h : Heap} {us : List Nat} : fEq true h (.v (.tup (vNats us))) (.v (.tup (vNats us))) = some (.v (.bool false)) := by
  have hd : toDR h (.v (.tup (vNats us))) = some (.tuple (dInts (us.map fun n : Nat => (n : Int)))) := by
    show toD _ = _
    unfold toD
    rw [vNats_ints, toDs_ints]
    rfl
  show (match toDR h (.v (.tup (vNats us))), toDR h (.v (.tup (vNats us))) with
    | some d, some e => if PySem.SeqAt.shaped d = true ∧ PySem.SeqAt.shaped e = true then some (RV.v (.bool (if true then !PySem.PyData.eqv d e else PySem.PyData.eqv d e))) else none
    | _, _ => none) = _
  rw [hd]
  have s := shaped_tup (us.map fun n : Nat => (n : Int))
  have r := PySem.SeqAt.eqv_refl _ (PySem.SeqAt.canLay_of_shaped s)
  dsimp only
  rw [if_pos ⟨s, s⟩, r]
  rfl
theorem ne_pair {h : Heap} {us ws : List Nat} : fEq true h (.own [.ro (vNats us), .ro (vNats ws)]) (.v (.ro [.ro (vNats us), .ro (vNats ws)])) = some (.v (.bool false)) := by
  have h1 : ∀ xs : List Nat, toD (.ro (vNats xs)) = some (.list (dInts (xs.map fun n : Nat => (n : Int)))) := fun xs => by
    unfold toD
    rw [vNats_ints, toDs_ints]
    rfl
  have hd : toDs [.ro (vNats us), .ro (vNats ws)] = some [.list (dInts (us.map fun n : Nat => (n : Int))), .list (dInts (ws.map fun n : Nat => (n : Int)))] := by
    unfold toDs
    rw [h1]
    unfold toDs
    rw [h1]
    unfold toDs
    rfl
  have ha : toDR h (.own [.ro (vNats us), .ro (vNats ws)]) = some (.list [.list (dInts (us.map fun n : Nat => (n : Int))), .list (dInts (ws.map fun n : Nat => (n : Int)))]) := by
    show (toDs _).map _ = _
    rw [hd]
    rfl
  have hb : toDR h (.v (.ro [.ro (vNats us), .ro (vNats ws)])) = some (.list [.list (dInts (us.map fun n : Nat => (n : Int))), .list (dInts (ws.map fun n : Nat => (n : Int)))]) := by
    show toD _ = _
    unfold toD
    rw [hd]
    rfl
  show (match toDR h (.own [.ro (vNats us), .ro (vNats ws)]), toDR h (.v (.ro [.ro (vNats us), .ro (vNats ws)])) with
    | some d, some e => if PySem.SeqAt.shaped d = true ∧ PySem.SeqAt.shaped e = true then some (RV.v (.bool (if true then !PySem.PyData.eqv d e else PySem.PyData.eqv d e))) else none
    | _, _ => none) = _
  rw [ha, hb]
  have s : PySem.SeqAt.shaped (.list [.list (dInts (us.map fun n : Nat => (n : Int))), .list (dInts (ws.map fun n : Nat => (n : Int)))]) = true := by
    unfold PySem.SeqAt.shaped PySem.PyData.canLay0 PySem.PyData.depth
    unfold PySem.PyData.canLayAll0 PySem.PyData.depthAll
    unfold PySem.PyData.canLay0 PySem.PyData.depth
    rw [lay_ints, depth_ints]
    unfold PySem.PyData.canLayAll0 PySem.PyData.depthAll
    unfold PySem.PyData.canLay0 PySem.PyData.depth
    rw [lay_ints, depth_ints]
    unfold PySem.PyData.canLayAll0 PySem.PyData.depthAll
    rfl
  have r := PySem.SeqAt.eqv_refl _ (PySem.SeqAt.canLay_of_shaped s)
  dsimp only
  rw [if_pos ⟨s, s⟩, r]
  rfl
theorem words_loop {h : Heap} {ws : List Nat} {v0 v1 v2 v3 v4 v6 : Option RV} : ∃ z6, sFor (.nm 6) (iView 5) l_law_1 [v0, v1, v2, v3, v4, some (.v (.tup (vNats ws))), v6] h = .nx [v0, v1, v2, v3, v4, some (.v (.tup (vNats ws))), z6] h := by
  obtain ⟨r2, h2, e, p⟩ := for_fold (g := .nm 6) (it := iView 5) (b := l_law_1) (r := [v0, v1, v2, v3, v4, some (.v (.tup (vNats ws))), v6]) (h := h) (h1 := h) (xs := vNats ws) (fun (_ : Unit) _ => ()) (fun _ r h' => (∃ y, r = [v0, v1, v2, v3, v4, some (.v (.tup (vNats ws))), y]) ∧ h' = h) () rfl ⟨⟨_, rfl⟩, rfl⟩ fun v hv a r h' ⟨⟨y, e1⟩, e2⟩ => by
    subst e1 e2
    obtain ⟨w, _, rfl⟩ := List.mem_map.mp hv
    refine ⟨_, rfl, _, _, ?_, ⟨some (.v (.int (w : Int))), rfl⟩, rfl⟩
    unfold l_law_1
    have f1 : fIs "int" h' (.v (.int (w : Int))) = some (.v (.bool true)) := rfl
    have f2 : fIs "bool" h' (.v (.int (w : Int))) = some (.v (.bool false)) := rfl
    simp only [q_C, q_Var, q_evv, q_evo, q_evw, q_e1, q_e1k, q_e2, q_e2k, q_e2j, q_aNil, q_aCons, q_ack, q_acj, q_argv, q_argo, q_argw, q_keeps, q_keepsN, q_kpc, q_keepv, q_keepo, q_Tup, q_etk, q_etj, q_Lst, q_elk, q_elj, q_Call, q_If, q_ift, q_iff, q_tB, q_tbk, q_tTru, q_ttk, q_tAnd, q_takt, q_takf, q_tOr, q_tokt, q_tokf, q_tNot, q_tnk, q_tYes, q_And, q_ndk, q_ndt, q_ndf, q_Or, q_ork, q_ort, q_orf, q_Not, q_ntk, q_ntj, q_trN, q_trB, q_trI, q_trT, q_trR, q_trO, q_trW, q_Chain, q_chk, q_chj, q_chit, q_chif, q_sNil, q_sPass, q_sCons, q_sSet, q_ssv, q_sso, q_sOwn, q_sok, q_sHeap, q_shk, q_sFrz, q_sfj, q_sExpr, q_sxk, q_sRet, q_srv, q_sro, q_sRetOwn, q_roj, q_sRetN, q_sBreak, q_sCont, q_sIf, q_sift, q_siff, q_sApp, q_sapj, q_sapv, q_sapo, q_sExt, q_sexj, q_sexk, q_sexm, q_llo, q_llw, q_llr, q_sSetIx, q_sixv, q_sixo, q_sixj, q_sixl, q_sixm, q_sSetHp, q_hpv, q_hpo, q_hpj, q_hpl, q_hpm, q_hpn, q_sAugHp, q_agk, q_agj, q_agl, q_agm, q_agn, q_ago, q_agp, q_sUnp, q_unk, q_setc, q_setn, q_sPar2, q_p2v, q_p2o, q_p2jv, q_p2jo, q_sAug, q_auj, q_aul, q_aumv, q_aumo, q_sWhile, q_wht, q_whf, q_frk, q_forN, q_forC, q_flk, q_putN, q_putT, q_iok, q_ioj, q_svT, q_svR, q_svS, q_svO, q_seT, q_seR, q_seS, q_seO, q_seW, q_iView, q_ivw, q_ivv, q_iRng1, q_irk, q_Sl, q_slk1, q_slk2, q_slk3, q_ePN, q_ePS, q_epk, q_cutT, q_cutR, q_cutS, q_cutO, q_cutW, q_SlSt, q_stk1, q_stk2, q_stk3, q_revO, q_revR, q_revW, q_LR, q_lrk, q_lrj, q_iRng2, q_r2k, q_r2j, q_iRng3, q_r3k, q_r3j, q_r3i, q_sUnpL, q_ulk, q_ulj, q_lkO, q_lkR, q_lkW, q_lkT, q_sExtA, q_xaj, q_xak, q_xam, q_laO, q_laW, q_laR, q_laT, q_LR3, q_l3k, q_l3j, q_l3i, q_sSetSl, q_ssk2, q_ssj, q_ssl, q_ssm, q_ssn, opt_some, opt_none, EO.bind_ok, EO.bind_ex, EO.then_ok, EO.then_ex, SO.seq_nx, SO.seq_rt, SO.seq_bk, SO.seq_ct, SO.seq_ex, SO.turn_nx, SO.turn_ct, SO.turn_bk, SO.turn_rt, SO.turn_ex, add_ii, sub_ii, and_ii, or_ii, xor_ii, lt_ii, le_ii, gt_ii, ge_ii, max_ii, min_ii, neg_i, abs_i, int_i, eq_ii, ne_ii, len_tup, len_ro, len_own, len_view, list_tup, list_ro, list_scr, list_own, list_view, tuple_tup, tuple_ro, tuple_own, tuple_view, at0, at1, at2, at3, ix_tup, ix_ro, ix_own, ix_view, Option.map_some, line, List.getElem?_cons_zero, List.getElem?_cons_succ, List.getElem?_nil, List.set_cons_zero, List.set_cons_succ, List.set_nil, List.length_cons, List.length_nil, List.map_cons, List.map_nil, List.cons_append, List.nil_append, List.replicate, Bool.not_true, Bool.not_false, if_true, if_false, Bool.false_eq_true, reduceIte, Nat.reduceAdd, Nat.reduceSub, Nat.reduceLeDiff, Nat.reduceEqDiff, decide_true, decide_false, f1, f2]
  obtain ⟨⟨y, rfl⟩, rfl⟩ := p
  exact ⟨y, e⟩
theorem fin_some {h h2 : Heap} {x : RV} : ∃ h', fin h (.rt x h2) = .ok x h' := ⟨_, rfl⟩
theorem main (ns : List Int) (hns : ns.length ≤ 63) : ∃ h', f_law [.v (.scr (ns.map .int))] [] = .ok (.v (.bool true)) h' := by
  unfold f_law
  rw [mkFn_eq]
  unfold b_law
  obtain ⟨st, es, is⟩ := start_ok ns []
  rw [← q_start] at es
  obtain ⟨x, s1, f1, i1, w1⟩ := block_ok (h := [HObj.lst st]) (n := 0) rfl is
  have t1 : ∀ a b, ([HObj.lst a].set 0 (.lst b)) = [HObj.lst b] := fun _ _ => rfl
  rw [t1] at f1
  obtain ⟨y, s2, f2, i2, w2⟩ := block_ok (h := [HObj.lst s1]) (n := 0) rfl i1
  rw [t1] at f2
  obtain ⟨c, s3, f3, i3, c0, c1⟩ := drq (m := 6) (h := [HObj.lst s2]) (n := 0) rfl i2 (by decide) (by decide +kernel)
  rw [t1] at f3
  have fin : ∀ y, Wd 128 y → ∃ h', fin [] ((((sSet 4 (eLst (aCons (e1 fList (eVar 2)) (aCons (e1 fList (eVar 3)) aNil)))) [some (.v (.scr (vInts ns))), some (.v (.obj 0)), some (.v (.ro (vNats x))), some (.v (.ro (vNats y))), none, none, none] [HObj.lst s3])).seq
      (sCons (sSet 5 (eCall f_join_blocks2 (aCons (eVar 2) (aCons (e1 fTuple (eVar 3)) (aNil))))) (sCons (sIf (tOr (tNot (tB (e1 (fIs "tuple") (eVar 5)))) (tOr (tB (e2 (fEq true) (eVar 5) (eCall f__law_expected (aCons (eVar 2) (aCons (eVar 3) (aNil)))))) (tB (e2 (fEq true) (eLst (aCons (eVar 2) (aCons (eVar 3) (aNil)))) (eVar 4))))) (sRet (eC (.bool false))) (sNil)) (sCons (sFor (.nm 6) (iView 5) l_law_1) (sRet (e2 (fEq false) (eCall f_join_blocks2 (aCons (e1 fList (eVar 2)) (aCons (e1 fList (eVar 3)) (aNil)))) (eVar 5))))))) = .ok (.v (.bool true)) h' := fun y w2 => by
    have j1 := join2_ok (h := [HObj.lst s3]) (v0 := .v (.ro (vNats x))) (v1 := .v (.tup (vNats y))) (.inl rfl) (.inr (.inl rfl)) w1 w2
    have j2 := join2_ok (h := [HObj.lst s3]) (v0 := .v (.ro (vNats x))) (v1 := .v (.ro (vNats y))) (.inl rfl) (.inl rfl) w1 w2
    have ee := exp_ok (h := [HObj.lst s3]) w1 w2
    have et : fIs "tuple" [HObj.lst s3] (.v (.tup (vNats (joinN x y)))) = some (.v (.bool true)) := rfl
    obtain ⟨z6, el⟩ := words_loop (h := [HObj.lst s3]) (ws := joinN x y) (v0 := some (.v (.scr (vInts ns)))) (v1 := some (.v (.obj 0))) (v2 := some (.v (.ro (vNats x)))) (v3 := some (.v (.ro (vNats y)))) (v4 := some (.v (.ro [.ro (vNats x), .ro (vNats y)]))) (v6 := none)
    generalize joinN x y = us at *
    simp only [q_C, q_Var, q_evv, q_evo, q_evw, q_e1, q_e1k, q_e2, q_e2k, q_e2j, q_aNil, q_aCons, q_ack, q_acj, q_argv, q_argo, q_argw, q_keeps, q_keepsN, q_kpc, q_keepv, q_keepo, q_Tup, q_etk, q_etj, q_Lst, q_elk, q_elj, q_Call, q_If, q_ift, q_iff, q_tB, q_tbk, q_tTru, q_ttk, q_tAnd, q_takt, q_takf, q_tOr, q_tokt, q_tokf, q_tNot, q_tnk, q_tYes, q_And, q_ndk, q_ndt, q_ndf, q_Or, q_ork, q_ort, q_orf, q_Not, q_ntk, q_ntj, q_trN, q_trB, q_trI, q_trT, q_trR, q_trO, q_trW, q_Chain, q_chk, q_chj, q_chit, q_chif, q_sNil, q_sPass, q_sCons, q_sSet, q_ssv, q_sso, q_sOwn, q_sok, q_sHeap, q_shk, q_sFrz, q_sfj, q_sExpr, q_sxk, q_sRet, q_srv, q_sro, q_sRetOwn, q_roj, q_sRetN, q_sBreak, q_sCont, q_sIf, q_sift, q_siff, q_sApp, q_sapj, q_sapv, q_sapo, q_sExt, q_sexj, q_sexk, q_sexm, q_llo, q_llw, q_llr, q_sSetIx, q_sixv, q_sixo, q_sixj, q_sixl, q_sixm, q_sSetHp, q_hpv, q_hpo, q_hpj, q_hpl, q_hpm, q_hpn, q_sAugHp, q_agk, q_agj, q_agl, q_agm, q_agn, q_ago, q_agp, q_sUnp, q_unk, q_setc, q_setn, q_sPar2, q_p2v, q_p2o, q_p2jv, q_p2jo, q_sAug, q_auj, q_aul, q_aumv, q_aumo, q_sWhile, q_wht, q_whf, q_frk, q_forN, q_forC, q_flk, q_putN, q_putT, q_iok, q_ioj, q_svT, q_svR, q_svS, q_svO, q_seT, q_seR, q_seS, q_seO, q_seW, q_iView, q_ivw, q_ivv, q_iRng1, q_irk, q_Sl, q_slk1, q_slk2, q_slk3, q_ePN, q_ePS, q_epk, q_cutT, q_cutR, q_cutS, q_cutO, q_cutW, q_SlSt, q_stk1, q_stk2, q_stk3, q_revO, q_revR, q_revW, q_LR, q_lrk, q_lrj, q_iRng2, q_r2k, q_r2j, q_iRng3, q_r3k, q_r3j, q_r3i, q_sUnpL, q_ulk, q_ulj, q_lkO, q_lkR, q_lkW, q_lkT, q_sExtA, q_xaj, q_xak, q_xam, q_laO, q_laW, q_laR, q_laT, q_LR3, q_l3k, q_l3j, q_l3i, q_sSetSl, q_ssk2, q_ssj, q_ssl, q_ssm, q_ssn, opt_some, opt_none, EO.bind_ok, EO.bind_ex, EO.then_ok, EO.then_ex, SO.seq_nx, SO.seq_rt, SO.seq_bk, SO.seq_ct, SO.seq_ex, SO.turn_nx, SO.turn_ct, SO.turn_bk, SO.turn_rt, SO.turn_ex, add_ii, sub_ii, and_ii, or_ii, xor_ii, lt_ii, le_ii, gt_ii, ge_ii, max_ii, min_ii, neg_i, abs_i, int_i, eq_ii, ne_ii, len_tup, len_ro, len_own, len_view, list_tup, list_ro, list_scr, list_own, list_view, tuple_tup, tuple_ro, tuple_own, tuple_view, at0, at1, at2, at3, ix_tup, ix_ro, ix_own, ix_view, Option.map_some, line, List.getElem?_cons_zero, List.getElem?_cons_succ, List.getElem?_nil, List.set_cons_zero, List.set_cons_succ, List.set_nil, List.length_cons, List.length_nil, List.map_cons, List.map_nil, List.cons_append, List.nil_append, List.replicate, Bool.not_true, Bool.not_false, if_true, if_false, Bool.false_eq_true, reduceIte, Nat.reduceAdd, Nat.reduceSub, Nat.reduceLeDiff, Nat.reduceEqDiff, decide_true, decide_false, j1, j2, ee, et, ne_same_t, ne_pair, el, eq_same_t]
    exact fin_some
  by_cases h5 : c = 5
  · subst h5
    obtain ⟨h', q⟩ := fin x w1
    refine ⟨h', Eq.trans ?_ q⟩
    simp only [q_C, q_Var, q_evv, q_evo, q_evw, q_e1, q_e1k, q_e2, q_e2k, q_e2j, q_aNil, q_aCons, q_ack, q_acj, q_argv, q_argo, q_argw, q_keeps, q_keepsN, q_kpc, q_keepv, q_keepo, q_Tup, q_etk, q_etj, q_Lst, q_elk, q_elj, q_Call, q_If, q_ift, q_iff, q_tB, q_tbk, q_tTru, q_ttk, q_tAnd, q_takt, q_takf, q_tOr, q_tokt, q_tokf, q_tNot, q_tnk, q_tYes, q_And, q_ndk, q_ndt, q_ndf, q_Or, q_ork, q_ort, q_orf, q_Not, q_ntk, q_ntj, q_trN, q_trB, q_trI, q_trT, q_trR, q_trO, q_trW, q_Chain, q_chk, q_chj, q_chit, q_chif, q_sNil, q_sPass, q_sCons, q_sSet, q_ssv, q_sso, q_sOwn, q_sok, q_sHeap, q_shk, q_sFrz, q_sfj, q_sExpr, q_sxk, q_sRet, q_srv, q_sro, q_sRetOwn, q_roj, q_sRetN, q_sBreak, q_sCont, q_sIf, q_sift, q_siff, q_sApp, q_sapj, q_sapv, q_sapo, q_sExt, q_sexj, q_sexk, q_sexm, q_llo, q_llw, q_llr, q_sSetIx, q_sixv, q_sixo, q_sixj, q_sixl, q_sixm, q_sSetHp, q_hpv, q_hpo, q_hpj, q_hpl, q_hpm, q_hpn, q_sAugHp, q_agk, q_agj, q_agl, q_agm, q_agn, q_ago, q_agp, q_sUnp, q_unk, q_setc, q_setn, q_sPar2, q_p2v, q_p2o, q_p2jv, q_p2jo, q_sAug, q_auj, q_aul, q_aumv, q_aumo, q_sWhile, q_wht, q_whf, q_frk, q_forN, q_forC, q_flk, q_putN, q_putT, q_iok, q_ioj, q_svT, q_svR, q_svS, q_svO, q_seT, q_seR, q_seS, q_seO, q_seW, q_iView, q_ivw, q_ivv, q_iRng1, q_irk, q_Sl, q_slk1, q_slk2, q_slk3, q_ePN, q_ePS, q_epk, q_cutT, q_cutR, q_cutS, q_cutO, q_cutW, q_SlSt, q_stk1, q_stk2, q_stk3, q_revO, q_revR, q_revW, q_LR, q_lrk, q_lrj, q_iRng2, q_r2k, q_r2j, q_iRng3, q_r3k, q_r3j, q_r3i, q_sUnpL, q_ulk, q_ulj, q_lkO, q_lkR, q_lkW, q_lkT, q_sExtA, q_xaj, q_xak, q_xam, q_laO, q_laW, q_laR, q_laT, q_LR3, q_l3k, q_l3j, q_l3i, q_sSetSl, q_ssk2, q_ssj, q_ssl, q_ssm, q_ssn, opt_some, opt_none, EO.bind_ok, EO.bind_ex, EO.then_ok, EO.then_ex, SO.seq_nx, SO.seq_rt, SO.seq_bk, SO.seq_ct, SO.seq_ex, SO.turn_nx, SO.turn_ct, SO.turn_bk, SO.turn_rt, SO.turn_ex, add_ii, sub_ii, and_ii, or_ii, xor_ii, lt_ii, le_ii, gt_ii, ge_ii, max_ii, min_ii, neg_i, abs_i, int_i, eq_ii, ne_ii, len_tup, len_ro, len_own, len_view, list_tup, list_ro, list_scr, list_own, list_view, tuple_tup, tuple_ro, tuple_own, tuple_view, at0, at1, at2, at3, ix_tup, ix_ro, ix_own, ix_view, Option.map_some, line, List.getElem?_cons_zero, List.getElem?_cons_succ, List.getElem?_nil, List.set_cons_zero, List.set_cons_succ, List.set_nil, List.length_cons, List.length_nil, List.map_cons, List.map_nil, List.cons_append, List.nil_append, List.replicate, Bool.not_true, Bool.not_false, if_true, if_false, Bool.false_eq_true, reduceIte, Nat.reduceAdd, Nat.reduceSub, Nat.reduceLeDiff, Nat.reduceEqDiff, decide_true, decide_false, es, f1, f2, f3]
  · obtain ⟨h', q⟩ := fin y w2
    refine ⟨h', Eq.trans ?_ q⟩
    simp only [q_C, q_Var, q_evv, q_evo, q_evw, q_e1, q_e1k, q_e2, q_e2k, q_e2j, q_aNil, q_aCons, q_ack, q_acj, q_argv, q_argo, q_argw, q_keeps, q_keepsN, q_kpc, q_keepv, q_keepo, q_Tup, q_etk, q_etj, q_Lst, q_elk, q_elj, q_Call, q_If, q_ift, q_iff, q_tB, q_tbk, q_tTru, q_ttk, q_tAnd, q_takt, q_takf, q_tOr, q_tokt, q_tokf, q_tNot, q_tnk, q_tYes, q_And, q_ndk, q_ndt, q_ndf, q_Or, q_ork, q_ort, q_orf, q_Not, q_ntk, q_ntj, q_trN, q_trB, q_trI, q_trT, q_trR, q_trO, q_trW, q_Chain, q_chk, q_chj, q_chit, q_chif, q_sNil, q_sPass, q_sCons, q_sSet, q_ssv, q_sso, q_sOwn, q_sok, q_sHeap, q_shk, q_sFrz, q_sfj, q_sExpr, q_sxk, q_sRet, q_srv, q_sro, q_sRetOwn, q_roj, q_sRetN, q_sBreak, q_sCont, q_sIf, q_sift, q_siff, q_sApp, q_sapj, q_sapv, q_sapo, q_sExt, q_sexj, q_sexk, q_sexm, q_llo, q_llw, q_llr, q_sSetIx, q_sixv, q_sixo, q_sixj, q_sixl, q_sixm, q_sSetHp, q_hpv, q_hpo, q_hpj, q_hpl, q_hpm, q_hpn, q_sAugHp, q_agk, q_agj, q_agl, q_agm, q_agn, q_ago, q_agp, q_sUnp, q_unk, q_setc, q_setn, q_sPar2, q_p2v, q_p2o, q_p2jv, q_p2jo, q_sAug, q_auj, q_aul, q_aumv, q_aumo, q_sWhile, q_wht, q_whf, q_frk, q_forN, q_forC, q_flk, q_putN, q_putT, q_iok, q_ioj, q_svT, q_svR, q_svS, q_svO, q_seT, q_seR, q_seS, q_seO, q_seW, q_iView, q_ivw, q_ivv, q_iRng1, q_irk, q_Sl, q_slk1, q_slk2, q_slk3, q_ePN, q_ePS, q_epk, q_cutT, q_cutR, q_cutS, q_cutO, q_cutW, q_SlSt, q_stk1, q_stk2, q_stk3, q_revO, q_revR, q_revW, q_LR, q_lrk, q_lrj, q_iRng2, q_r2k, q_r2j, q_iRng3, q_r3k, q_r3j, q_r3i, q_sUnpL, q_ulk, q_ulj, q_lkO, q_lkR, q_lkW, q_lkT, q_sExtA, q_xaj, q_xak, q_xam, q_laO, q_laW, q_laR, q_laT, q_LR3, q_l3k, q_l3j, q_l3i, q_sSetSl, q_ssk2, q_ssj, q_ssl, q_ssm, q_ssn, opt_some, opt_none, EO.bind_ok, EO.bind_ex, EO.then_ok, EO.then_ex, SO.seq_nx, SO.seq_rt, SO.seq_bk, SO.seq_ct, SO.seq_ex, SO.turn_nx, SO.turn_ct, SO.turn_bk, SO.turn_rt, SO.turn_ex, add_ii, sub_ii, and_ii, or_ii, xor_ii, lt_ii, le_ii, gt_ii, ge_ii, max_ii, min_ii, neg_i, abs_i, int_i, eq_ii, ne_ii, len_tup, len_ro, len_own, len_view, list_tup, list_ro, list_scr, list_own, list_view, tuple_tup, tuple_ro, tuple_own, tuple_view, at0, at1, at2, at3, ix_tup, ix_ro, ix_own, ix_view, Option.map_some, line, List.getElem?_cons_zero, List.getElem?_cons_succ, List.getElem?_nil, List.set_cons_zero, List.set_cons_succ, List.set_nil, List.length_cons, List.length_nil, List.map_cons, List.map_nil, List.cons_append, List.nil_append, List.replicate, Bool.not_true, Bool.not_false, if_true, if_false, Bool.false_eq_true, reduceIte, Nat.reduceAdd, Nat.reduceSub, Nat.reduceLeDiff, Nat.reduceEqDiff, decide_true, decide_false, es, f1, f2, f3, h5]
end Lk50

set_option maxHeartbeats 0 in
theorem PySem.Challenge.cw_saltmill_k50_joined_blocks_holds : PySem.Challenge.rw_saltmill_k50_joined_blocks.Holds := by
  w_on; o_law; k_head; (case hw => w_witness2)
  k_fill
  refine L2.walk_of (l := PySem.Challenge.rw_saltmill_k50_joined_blocks) (n := 63) (k := 5) (x := "script") (CX := fun w => L2.CX (PySem.Challenge.rw_saltmill_k50_joined_blocks).prog w) (sp := fun w => SM.spL _ Lk50.f_law) rfl (by decide) rfl ⟨rfl, by decide, by decide⟩ (fun w h Y => PySem.W.kIn_of Y) ?F (fun _ H a ns hl hO hS => fun mg => SM.law_sp hO hS (Lk50.main ns hl)) ?X
  case X => exact fun w H s e s' c => SM.cx_none c
  case F =>
    intro w mg fa h KX G hmg
    refine' Lk50.all_mk KX G hmg ?a1 ?l1 ?c1 ?e1 ?a2 ?l2 ?c2 ?e2 ?a3 ?l3 ?c3 ?e3 ?a4 ?l4 ?c4 ?e4 ?a5 ?l5 ?c5 ?e5 ?a6 ?l6 ?c6 ?e6 ?a7 ?l7 ?c7 ?e7 ?a8 ?l8 ?c8 ?e8 ?a9 ?l9 ?c9 ?e9 ?a10 ?l10 ?c10 ?e10 ?a11 ?l11 ?c11 ?e11 ?a12 ?l12 ?c12 ?e12 ?a13 ?l13 ?c13 ?e13 ?a14 ?l14 ?c14 ?e14 ?b15 ?b16 ?b17 ?h17_1 ?h17_2 ?h17_7 ?h17_12 ?h17_17 ?h17_22 ?h17_27 ?h17_32 ?h17_37 ?b18 ?b19 ?b20 ?b21 ?b22 ?b23 ?b24 ?b25 ?b26
    (case a1 => k_is); (case l1 => k_is); (case c1 => k_is); (case e1 => k_is); (case a2 => k_is); (case l2 => k_is); (case c2 => k_is); (case e2 => k_is); (case a3 => k_is); (case l3 => k_is); (case c3 => k_is); (case e3 => k_is); (case a4 => k_is); (case l4 => k_is); (case c4 => k_is); (case e4 => k_is); (case a5 => k_is); (case l5 => k_is); (case c5 => k_is); (case e5 => k_is); (case a6 => k_is); (case l6 => k_is); (case c6 => k_is); (case e6 => k_is); (case a7 => k_is); (case l7 => k_is); (case c7 => k_is); (case e7 => k_is); (case a8 => k_is); (case l8 => k_is); (case c8 => k_is); (case e8 => k_is); (case a9 => k_is); (case l9 => k_is); (case c9 => k_is); (case e9 => k_is); (case a10 => k_is); (case l10 => k_is); (case c10 => k_is); (case e10 => k_is); (case a11 => k_is); (case l11 => k_is); (case c11 => k_is); (case e11 => k_is); (case a12 => k_is); (case l12 => k_is); (case c12 => k_is); (case e12 => k_is); (case a13 => k_is); (case l13 => k_is); (case c13 => k_is); (case e13 => k_is); (case a14 => k_is); (case l14 => k_is); (case c14 => k_is); (case e14 => k_is); (case b15 => k_is); (case b16 => k_is); (case b17 => k_is); (case h17_1 => k_is); (case h17_2 => k_is); (case h17_7 => k_is); (case h17_12 => k_is); (case h17_17 => k_is); (case h17_22 => k_is); (case h17_27 => k_is); (case h17_32 => k_is); (case h17_37 => k_is); (case b18 => k_is); (case b19 => k_is); (case b20 => k_is); (case b21 => k_is); (case b22 => k_is); (case b23 => k_is); (case b24 => k_is); (case b25 => k_is); (case b26 => k_is)
